import PyProof.Rows.All
import Wide.All
import OpenK.AllK
import Wide.FinOn
import PySem.Challenge.RW_np0229_01
open PySem PySem.W PyProof.Rows PySem.Calls
set_option Elab.async false
set_option linter.all false
set_option maxRecDepth 100000
set_option maxHeartbeats 0
namespace LzT
noncomputable abbrev pw : Program := PySem.Challenge.pw_np0229_01
noncomputable def top (i : Nat) : Stmt := pw.main.body.getD i (.Pass default)
noncomputable def kid (s : Stmt) (i : Nat) : Stmt := match s with | .ClassDef _ _ _ b _ _ _ _ _ _ _ => b.getD i s | _ => s
noncomputable def fP (s : Stmt) : Arguments := match s with | .FunctionDef _ a _ _ _ _ _ _ _ _ => a | _ => ⟨[], [], none, [], [], none, []⟩
noncomputable def fB (s : Stmt) : List Stmt := match s with | .FunctionDef _ _ b _ _ _ _ _ _ _ => b | _ => []
noncomputable def fS (s : Stmt) : Scope := match s with | .FunctionDef _ _ _ _ _ _ c _ _ _ => c | _ => pw.main.scope
noncomputable def o_49 : Params → Obj := fun P => ⟨.none, none, (.dict #[⟨(PyData.keyHash P (.ofString "type.__subclasses__.Exception.0")), (.str (.ofString "type.__subclasses__.Exception.0") 216), (.int 32 0)⟩, ⟨(PyData.keyHash P (.ofString "type.__subclasses__.Exception.n")), (.str (.ofString "type.__subclasses__.Exception.n") 217), (.int 1 0)⟩] 2), #[]⟩
noncomputable def o_363 : Params → Obj := fun P => ⟨(.type "dict"), none, (.dict #[⟨(PyData.keyHash P (.ofString "__name__")), (.str (.ofString "__name__") 165), (.str (.ofString "law_np0229_01") 613)⟩, ⟨(PyData.keyHash P (.ofString "__doc__")), (.str (.ofString "__doc__") 166), .none⟩, ⟨(PyData.keyHash P (.ofString "__package__")), (.str (.ofString "__package__") 167), .none⟩, ⟨(PyData.keyHash P (.ofString "__loader__")), (.str (.ofString "__loader__") 168), (.builtin "__main__.__loader__#opaque")⟩, ⟨(PyData.keyHash P (.ofString "__spec__")), (.str (.ofString "__spec__") 169), .none⟩, ⟨(PyData.keyHash P (.ofString "__annotations__")), (.str (.ofString "__annotations__") 170), (.ref 6)⟩, ⟨(PyData.keyHash P (.ofString "__builtins__")), (.str (.ofString "__builtins__") 171), (.ref 4)⟩, ⟨(PyData.keyHash P (.ofString "__file__")), (.str (.ofString "__file__") 173), (.str (.ofString "/claim/cut.py") 172)⟩, ⟨(PyData.keyHash P (.ofString "__cached__")), (.str (.ofString "__cached__") 174), .none⟩, ⟨(PyData.keyHash P (.ofString "LazyError")), (.str (.ofString "LazyError") 219), (.ref 32)⟩, ⟨(PyData.keyHash P (.ofString "MachineError")), (.str (.ofString "MachineError") 235), (.ref 45)⟩, ⟨(PyData.keyHash P (.ofString "Function")), (.str (.ofString "Function") 268), (.ref 64)⟩, ⟨(PyData.keyHash P (.ofString "Partial")), (.str (.ofString "Partial") 299), (.ref 85)⟩, ⟨(PyData.keyHash P (.ofString "Thunk")), (.str (.ofString "Thunk") 330), (.ref 106)⟩, ⟨(PyData.keyHash P (.ofString "Hole")), (.str (.ofString "Hole") 350), (.ref 120)⟩, ⟨(PyData.keyHash P (.ofString "Link")), (.str (.ofString "Link") 379), (.ref 141)⟩, ⟨(PyData.keyHash P (.ofString "Plain")), (.str (.ofString "Plain") 408), (.ref 162)⟩, ⟨(PyData.keyHash P (.ofString "Data")), (.str (.ofString "Data") 439), (.ref 183)⟩, ⟨(PyData.keyHash P (.ofString "Heap")), (.str (.ofString "Heap") 501), (.ref 232)⟩, ⟨(PyData.keyHash P (.ofString "value_moved")), (.str (.ofString "value_moved") 511), (.ref 243)⟩, ⟨(PyData.keyHash P (.ofString "Collector")), (.str (.ofString "Collector") 596), (.ref 300)⟩, ⟨(PyData.keyHash P (.ofString "collected")), (.str (.ofString "collected") 606), (.ref 311)⟩, ⟨(PyData.keyHash P (.ofString "values_roots")), (.str (.ofString "values_roots") 612), (.ref 316)⟩, ⟨(PyData.keyHash P (.ofString "_law_pool")), (.str (.ofString "_law_pool") 624), (.ref 323)⟩, ⟨(PyData.keyHash P (.ofString "_law_take")), (.str (.ofString "_law_take") 633), (.ref 330)⟩, ⟨(PyData.keyHash P (.ofString "_law_values")), (.str (.ofString "_law_values") 644), (.ref 337)⟩, ⟨(PyData.keyHash P (.ofString "_law_rows")), (.str (.ofString "_law_rows") 650), (.ref 342)⟩, ⟨(PyData.keyHash P (.ofString "_law_cell")), (.str (.ofString "_law_cell") 660), (.ref 349)⟩, ⟨(PyData.keyHash P (.ofString "_law_row")), (.str (.ofString "_law_row") 667), (.ref 356)⟩, ⟨(PyData.keyHash P (.ofString "_law_end")), (.str (.ofString "_law_end") 675), (.ref 363)⟩, ⟨(PyData.keyHash P (.ofString "_law_named")), (.str (.ofString "_law_named") 681), (.ref 368)⟩, ⟨(PyData.keyHash P (.ofString "_law_reached")), (.str (.ofString "_law_reached") 692), (.ref 375)⟩, ⟨(PyData.keyHash P (.ofString "_law_mended")), (.str (.ofString "_law_mended") 698), (.ref 380)⟩, ⟨(PyData.keyHash P (.ofString "law")), (.str (.ofString "law") 704), (.ref 385)⟩] 34), #[]⟩
noncomputable def o_52 : Params → Obj := fun _ => ⟨(.type "tuple"), none, (.seq #[(.type "Exception")] 0), #[]⟩
noncomputable def o_59 : Params → Obj := fun _ => ⟨(.type "tuple"), none, (.seq #[.none] 0), #[]⟩
noncomputable def o_60 : Params → Obj := fun _ => ⟨(.type "tuple"), none, (.seq #[] 0), #[]⟩
noncomputable def o_62 : Params → Obj := fun _ => ⟨(.type "tuple"), none, (.seq #[(.str (.ofString "self") 204), (.str (.ofString "message") 205), (.str (.ofString "place") 206)] 0), #[]⟩
noncomputable def o_63 : Params → Obj := fun _ => ⟨(.type "tuple"), none, (.seq #[] 0), #[]⟩
noncomputable def o_65 : Params → Obj := fun _ => ⟨(.type "code"), none, (.fields #[(.str (.ofString "__init__") 201), (.str (.ofString "LazyError.__init__") 202), (.str (.ofString "/claim/cut.py") 203), (.int 4 0), (.int 3 0), (.int 0 0), (.int 0 0), (.int 3 0), (.ref 23), (.bool true), (.int 181 0), (.ref 24), .none, (.ref 25), (.ref 26), (.ref 27), (.int 207 0), (.int 4 0), (.str (.ofString "/claim/cut.py") 208)]), #[]⟩
noncomputable def o_66 : Params → Obj := fun _ => ⟨(.type "function"), none, (.func ⟨(.ofString "__init__"), (.ofString "LazyError.__init__"), (fP (kid (top 1) 0)), (.stmts (fB (kid (top 1) 0))), (fS (kid (top 1) 0)), 3, [], (.ref 22), .none, .none, (.str (.ofString "lazycore.errors") 187), none, (.ref 28), .none, 0⟩), #[]⟩
noncomputable def o_67 : Params → Obj := fun _ => ⟨(.type "tuple"), none, (.seq #[(.str (.ofString "message") 210), (.str (.ofString "place") 211)] 0), #[]⟩
noncomputable def o_68 : Params → Obj := fun P => ⟨(.type "dict"), none, (.dict #[⟨(PyData.keyHash P (.ofString "__module__")), (.str (.ofString "__module__") 196), (.str (.ofString "lazycore.errors") 187)⟩, ⟨(PyData.keyHash P (.ofString "__firstlineno__")), (.str (.ofString "__firstlineno__") 200), (.int 2 199)⟩, ⟨(PyData.keyHash P (.ofString "__init__")), (.str (.ofString "__init__") 209), (.ref 29)⟩, ⟨(PyData.keyHash P (.ofString "__static_attributes__")), (.str (.ofString "__static_attributes__") 212), (.ref 30)⟩, ⟨(PyData.keyHash P (.ofString "__weakref__")), (.str (.ofString "__weakref__") 214), (.ref 33)⟩, ⟨(PyData.keyHash P (.ofString "__doc__")), (.str (.ofString "__doc__") 215), .none⟩] 3), #[]⟩
noncomputable def o_75 : Params → Obj := fun _ => ⟨(.type "type"), none, (.cls ⟨(.ofString "LazyError"), [(.type "Exception")], [(.ref 32), (.type "Exception"), (.type "BaseException"), (.type "object")], 31, (.ofString "LazyError"), true, [], [(.ref 45)], false, none, false⟩), #[(some (.ref 15)), none, (some (.str (.ofString "LazyError") 189)), (some (.str (.ofString "LazyError") 197)), (some (.builtin "Exception.__new__")), (some (.bool true))]⟩
noncomputable def o_70 : Params → Obj := fun _ => ⟨(.type "getset_descriptor"), none, (.fields #[(.str (.ofString "__weakref__") 213), (.ref 32), (.builtin "ExceptionGroup.__weakref__"), .none]), #[]⟩
noncomputable def o_76 : Params → Obj := fun _ => ⟨(.type "tuple"), none, (.seq #[(.ref 32)] 0), #[]⟩
noncomputable def o_83 : Params → Obj := fun _ => ⟨(.type "tuple"), none, (.seq #[] 0), #[]⟩
noncomputable def o_84 : Params → Obj := fun P => ⟨(.type "dict"), none, (.dict #[⟨(PyData.keyHash P (.ofString "__module__")), (.str (.ofString "__module__") 227), (.str (.ofString "lazycore.errors") 187)⟩, ⟨(PyData.keyHash P (.ofString "__firstlineno__")), (.str (.ofString "__firstlineno__") 231), (.int 8 230)⟩, ⟨(PyData.keyHash P (.ofString "__static_attributes__")), (.str (.ofString "__static_attributes__") 232), (.ref 43)⟩, ⟨(PyData.keyHash P (.ofString "__doc__")), (.str (.ofString "__doc__") 233), .none⟩] 2), #[]⟩
noncomputable def o_85 : Params → Obj := fun _ => ⟨(.type "type"), none, (.cls ⟨(.ofString "MachineError"), [(.ref 32)], [(.ref 45), (.ref 32), (.type "Exception"), (.type "BaseException"), (.type "object")], 44, (.ofString "MachineError"), true, [], [], false, none, false⟩), #[(some (.ref 36)), none, (some (.str (.ofString "MachineError") 220)), (some (.str (.ofString "MachineError") 228)), (some (.builtin "Exception.__new__")), (some (.bool true))]⟩
noncomputable def o_97 : Params → Obj := fun _ => ⟨(.type "tuple"), none, (.seq #[] 0), #[]⟩
noncomputable def o_99 : Params → Obj := fun _ => ⟨(.type "tuple"), none, (.seq #[(.str (.ofString "self") 253), (.str (.ofString "code") 254), (.str (.ofString "captured") 255)] 0), #[]⟩
noncomputable def o_100 : Params → Obj := fun _ => ⟨(.type "tuple"), none, (.seq #[] 0), #[]⟩
noncomputable def o_102 : Params → Obj := fun _ => ⟨(.type "code"), none, (.fields #[(.str (.ofString "__init__") 250), (.str (.ofString "Function.__init__") 251), (.str (.ofString "/claim/cut.py") 252), (.int 13 0), (.int 3 0), (.int 0 0), (.int 0 0), (.int 3 0), (.ref 55), (.bool true), (.int 181 0), (.ref 56), .none, (.ref 57), (.ref 58), (.ref 59), (.int 256 0), (.int 13 0), (.str (.ofString "/claim/cut.py") 257)]), #[]⟩
noncomputable def o_103 : Params → Obj := fun _ => ⟨(.type "function"), none, (.func ⟨(.ofString "__init__"), (.ofString "Function.__init__"), (fP (kid (top 4) 0)), (.stmts (fB (kid (top 4) 0))), (fS (kid (top 4) 0)), 3, [], .none, .none, .none, (.str (.ofString "lazycore.heap") 236), none, (.ref 60), .none, 0⟩), #[]⟩
noncomputable def o_104 : Params → Obj := fun _ => ⟨(.type "tuple"), none, (.seq #[(.str (.ofString "captured") 259), (.str (.ofString "code") 260)] 0), #[]⟩
noncomputable def o_105 : Params → Obj := fun P => ⟨(.type "dict"), none, (.dict #[⟨(PyData.keyHash P (.ofString "__module__")), (.str (.ofString "__module__") 245), (.str (.ofString "lazycore.heap") 236)⟩, ⟨(PyData.keyHash P (.ofString "__firstlineno__")), (.str (.ofString "__firstlineno__") 249), (.int 11 248)⟩, ⟨(PyData.keyHash P (.ofString "__init__")), (.str (.ofString "__init__") 258), (.ref 61)⟩, ⟨(PyData.keyHash P (.ofString "__static_attributes__")), (.str (.ofString "__static_attributes__") 261), (.ref 62)⟩, ⟨(PyData.keyHash P (.ofString "__dict__")), (.str (.ofString "__dict__") 263), (.ref 65)⟩, ⟨(PyData.keyHash P (.ofString "__weakref__")), (.str (.ofString "__weakref__") 265), (.ref 66)⟩, ⟨(PyData.keyHash P (.ofString "__doc__")), (.str (.ofString "__doc__") 266), .none⟩] 4), #[]⟩
noncomputable def o_106 : Params → Obj := fun _ => ⟨(.type "type"), none, (.cls ⟨(.ofString "Function"), [(.type "object")], [(.ref 64), (.type "object")], 63, (.ofString "Function"), true, [], [], false, none, false⟩), #[none, none, (some (.str (.ofString "Function") 238)), (some (.str (.ofString "Function") 246)), (some (.builtin "object.__new__")), (some (.bool true))]⟩
noncomputable def o_107 : Params → Obj := fun _ => ⟨(.type "getset_descriptor"), none, (.fields #[(.str (.ofString "__dict__") 262), (.ref 64), (.builtin "function.__dict__"), (.builtin "function.__dict__#set")]), #[]⟩
noncomputable def o_108 : Params → Obj := fun _ => ⟨(.type "getset_descriptor"), none, (.fields #[(.str (.ofString "__weakref__") 264), (.ref 64), (.builtin "ExceptionGroup.__weakref__"), .none]), #[]⟩
noncomputable def o_120 : Params → Obj := fun _ => ⟨(.type "tuple"), none, (.seq #[] 0), #[]⟩
noncomputable def o_122 : Params → Obj := fun _ => ⟨(.type "tuple"), none, (.seq #[(.str (.ofString "self") 284), (.str (.ofString "address") 285), (.str (.ofString "values") 286)] 0), #[]⟩
noncomputable def o_123 : Params → Obj := fun _ => ⟨(.type "tuple"), none, (.seq #[] 0), #[]⟩
noncomputable def o_125 : Params → Obj := fun _ => ⟨(.type "code"), none, (.fields #[(.str (.ofString "__init__") 281), (.str (.ofString "Partial.__init__") 282), (.str (.ofString "/claim/cut.py") 283), (.int 18 0), (.int 3 0), (.int 0 0), (.int 0 0), (.int 3 0), (.ref 76), (.bool true), (.int 181 0), (.ref 77), .none, (.ref 78), (.ref 79), (.ref 80), (.int 287 0), (.int 18 0), (.str (.ofString "/claim/cut.py") 288)]), #[]⟩
noncomputable def o_126 : Params → Obj := fun _ => ⟨(.type "function"), none, (.func ⟨(.ofString "__init__"), (.ofString "Partial.__init__"), (fP (kid (top 5) 0)), (.stmts (fB (kid (top 5) 0))), (fS (kid (top 5) 0)), 3, [], .none, .none, .none, (.str (.ofString "lazycore.heap") 236), none, (.ref 81), .none, 0⟩), #[]⟩
noncomputable def o_127 : Params → Obj := fun _ => ⟨(.type "tuple"), none, (.seq #[(.str (.ofString "address") 290), (.str (.ofString "values") 291)] 0), #[]⟩
noncomputable def o_128 : Params → Obj := fun P => ⟨(.type "dict"), none, (.dict #[⟨(PyData.keyHash P (.ofString "__module__")), (.str (.ofString "__module__") 276), (.str (.ofString "lazycore.heap") 236)⟩, ⟨(PyData.keyHash P (.ofString "__firstlineno__")), (.str (.ofString "__firstlineno__") 280), (.int 16 279)⟩, ⟨(PyData.keyHash P (.ofString "__init__")), (.str (.ofString "__init__") 289), (.ref 82)⟩, ⟨(PyData.keyHash P (.ofString "__static_attributes__")), (.str (.ofString "__static_attributes__") 292), (.ref 83)⟩, ⟨(PyData.keyHash P (.ofString "__dict__")), (.str (.ofString "__dict__") 294), (.ref 86)⟩, ⟨(PyData.keyHash P (.ofString "__weakref__")), (.str (.ofString "__weakref__") 296), (.ref 87)⟩, ⟨(PyData.keyHash P (.ofString "__doc__")), (.str (.ofString "__doc__") 297), .none⟩] 4), #[]⟩
noncomputable def o_129 : Params → Obj := fun _ => ⟨(.type "type"), none, (.cls ⟨(.ofString "Partial"), [(.type "object")], [(.ref 85), (.type "object")], 84, (.ofString "Partial"), true, [], [], false, none, false⟩), #[none, none, (some (.str (.ofString "Partial") 269)), (some (.str (.ofString "Partial") 277)), (some (.builtin "object.__new__")), (some (.bool true))]⟩
noncomputable def o_130 : Params → Obj := fun _ => ⟨(.type "getset_descriptor"), none, (.fields #[(.str (.ofString "__dict__") 293), (.ref 85), (.builtin "function.__dict__"), (.builtin "function.__dict__#set")]), #[]⟩
noncomputable def o_131 : Params → Obj := fun _ => ⟨(.type "getset_descriptor"), none, (.fields #[(.str (.ofString "__weakref__") 295), (.ref 85), (.builtin "ExceptionGroup.__weakref__"), .none]), #[]⟩
noncomputable def o_143 : Params → Obj := fun _ => ⟨(.type "tuple"), none, (.seq #[] 0), #[]⟩
noncomputable def o_145 : Params → Obj := fun _ => ⟨(.type "tuple"), none, (.seq #[(.str (.ofString "self") 315), (.str (.ofString "code") 316), (.str (.ofString "captured") 317)] 0), #[]⟩
noncomputable def o_146 : Params → Obj := fun _ => ⟨(.type "tuple"), none, (.seq #[] 0), #[]⟩
noncomputable def o_148 : Params → Obj := fun _ => ⟨(.type "code"), none, (.fields #[(.str (.ofString "__init__") 312), (.str (.ofString "Thunk.__init__") 313), (.str (.ofString "/claim/cut.py") 314), (.int 23 0), (.int 3 0), (.int 0 0), (.int 0 0), (.int 3 0), (.ref 97), (.bool true), (.int 181 0), (.ref 98), .none, (.ref 99), (.ref 100), (.ref 101), (.int 318 0), (.int 23 0), (.str (.ofString "/claim/cut.py") 319)]), #[]⟩
noncomputable def o_149 : Params → Obj := fun _ => ⟨(.type "function"), none, (.func ⟨(.ofString "__init__"), (.ofString "Thunk.__init__"), (fP (kid (top 6) 0)), (.stmts (fB (kid (top 6) 0))), (fS (kid (top 4) 0)), 3, [], .none, .none, .none, (.str (.ofString "lazycore.heap") 236), none, (.ref 102), .none, 0⟩), #[]⟩
noncomputable def o_150 : Params → Obj := fun _ => ⟨(.type "tuple"), none, (.seq #[(.str (.ofString "captured") 321), (.str (.ofString "code") 322)] 0), #[]⟩
noncomputable def o_151 : Params → Obj := fun P => ⟨(.type "dict"), none, (.dict #[⟨(PyData.keyHash P (.ofString "__module__")), (.str (.ofString "__module__") 307), (.str (.ofString "lazycore.heap") 236)⟩, ⟨(PyData.keyHash P (.ofString "__firstlineno__")), (.str (.ofString "__firstlineno__") 311), (.int 21 310)⟩, ⟨(PyData.keyHash P (.ofString "__init__")), (.str (.ofString "__init__") 320), (.ref 103)⟩, ⟨(PyData.keyHash P (.ofString "__static_attributes__")), (.str (.ofString "__static_attributes__") 323), (.ref 104)⟩, ⟨(PyData.keyHash P (.ofString "__dict__")), (.str (.ofString "__dict__") 325), (.ref 107)⟩, ⟨(PyData.keyHash P (.ofString "__weakref__")), (.str (.ofString "__weakref__") 327), (.ref 108)⟩, ⟨(PyData.keyHash P (.ofString "__doc__")), (.str (.ofString "__doc__") 328), .none⟩] 4), #[]⟩
noncomputable def o_152 : Params → Obj := fun _ => ⟨(.type "type"), none, (.cls ⟨(.ofString "Thunk"), [(.type "object")], [(.ref 106), (.type "object")], 105, (.ofString "Thunk"), true, [], [], false, none, false⟩), #[none, none, (some (.str (.ofString "Thunk") 300)), (some (.str (.ofString "Thunk") 308)), (some (.builtin "object.__new__")), (some (.bool true))]⟩
noncomputable def o_153 : Params → Obj := fun _ => ⟨(.type "getset_descriptor"), none, (.fields #[(.str (.ofString "__dict__") 324), (.ref 106), (.builtin "function.__dict__"), (.builtin "function.__dict__#set")]), #[]⟩
noncomputable def o_154 : Params → Obj := fun _ => ⟨(.type "getset_descriptor"), none, (.fields #[(.str (.ofString "__weakref__") 326), (.ref 106), (.builtin "ExceptionGroup.__weakref__"), .none]), #[]⟩
noncomputable def o_166 : Params → Obj := fun _ => ⟨(.type "tuple"), none, (.seq #[] 0), #[]⟩
noncomputable def o_167 : Params → Obj := fun P => ⟨(.type "dict"), none, (.dict #[⟨(PyData.keyHash P (.ofString "__module__")), (.str (.ofString "__module__") 338), (.str (.ofString "lazycore.heap") 236)⟩, ⟨(PyData.keyHash P (.ofString "__firstlineno__")), (.str (.ofString "__firstlineno__") 342), (.int 26 341)⟩, ⟨(PyData.keyHash P (.ofString "__static_attributes__")), (.str (.ofString "__static_attributes__") 343), (.ref 118)⟩, ⟨(PyData.keyHash P (.ofString "__dict__")), (.str (.ofString "__dict__") 345), (.ref 121)⟩, ⟨(PyData.keyHash P (.ofString "__weakref__")), (.str (.ofString "__weakref__") 347), (.ref 122)⟩, ⟨(PyData.keyHash P (.ofString "__doc__")), (.str (.ofString "__doc__") 348), .none⟩] 4), #[]⟩
noncomputable def o_168 : Params → Obj := fun _ => ⟨(.type "type"), none, (.cls ⟨(.ofString "Hole"), [(.type "object")], [(.ref 120), (.type "object")], 119, (.ofString "Hole"), true, [], [], false, none, false⟩), #[none, none, (some (.str (.ofString "Hole") 331)), (some (.str (.ofString "Hole") 339)), (some (.builtin "object.__new__")), (some (.bool true))]⟩
noncomputable def o_169 : Params → Obj := fun _ => ⟨(.type "getset_descriptor"), none, (.fields #[(.str (.ofString "__dict__") 344), (.ref 120), (.builtin "function.__dict__"), (.builtin "function.__dict__#set")]), #[]⟩
noncomputable def o_170 : Params → Obj := fun _ => ⟨(.type "getset_descriptor"), none, (.fields #[(.str (.ofString "__weakref__") 346), (.ref 120), (.builtin "ExceptionGroup.__weakref__"), .none]), #[]⟩
noncomputable def o_182 : Params → Obj := fun _ => ⟨(.type "tuple"), none, (.seq #[] 0), #[]⟩
noncomputable def o_184 : Params → Obj := fun _ => ⟨(.type "tuple"), none, (.seq #[(.str (.ofString "self") 366), (.str (.ofString "address") 367)] 0), #[]⟩
noncomputable def o_185 : Params → Obj := fun _ => ⟨(.type "tuple"), none, (.seq #[] 0), #[]⟩
noncomputable def o_187 : Params → Obj := fun _ => ⟨(.type "code"), none, (.fields #[(.str (.ofString "__init__") 363), (.str (.ofString "Link.__init__") 364), (.str (.ofString "/claim/cut.py") 365), (.int 30 0), (.int 2 0), (.int 0 0), (.int 0 0), (.int 3 0), (.ref 132), (.bool true), (.int 181 0), (.ref 133), .none, (.ref 134), (.ref 135), (.ref 136), (.int 368 0), (.int 30 0), (.str (.ofString "/claim/cut.py") 369)]), #[]⟩
noncomputable def o_188 : Params → Obj := fun _ => ⟨(.type "function"), none, (.func ⟨(.ofString "__init__"), (.ofString "Link.__init__"), (fP (kid (top 8) 0)), (.stmts (fB (kid (top 8) 0))), (fS (kid (top 8) 0)), 3, [], .none, .none, .none, (.str (.ofString "lazycore.heap") 236), none, (.ref 137), .none, 0⟩), #[]⟩
noncomputable def o_189 : Params → Obj := fun _ => ⟨(.type "tuple"), none, (.seq #[(.str (.ofString "address") 371)] 0), #[]⟩
noncomputable def o_190 : Params → Obj := fun P => ⟨(.type "dict"), none, (.dict #[⟨(PyData.keyHash P (.ofString "__module__")), (.str (.ofString "__module__") 358), (.str (.ofString "lazycore.heap") 236)⟩, ⟨(PyData.keyHash P (.ofString "__firstlineno__")), (.str (.ofString "__firstlineno__") 362), (.int 28 361)⟩, ⟨(PyData.keyHash P (.ofString "__init__")), (.str (.ofString "__init__") 370), (.ref 138)⟩, ⟨(PyData.keyHash P (.ofString "__static_attributes__")), (.str (.ofString "__static_attributes__") 372), (.ref 139)⟩, ⟨(PyData.keyHash P (.ofString "__dict__")), (.str (.ofString "__dict__") 374), (.ref 142)⟩, ⟨(PyData.keyHash P (.ofString "__weakref__")), (.str (.ofString "__weakref__") 376), (.ref 143)⟩, ⟨(PyData.keyHash P (.ofString "__doc__")), (.str (.ofString "__doc__") 377), .none⟩] 4), #[]⟩
noncomputable def o_191 : Params → Obj := fun _ => ⟨(.type "type"), none, (.cls ⟨(.ofString "Link"), [(.type "object")], [(.ref 141), (.type "object")], 140, (.ofString "Link"), true, [], [], false, none, false⟩), #[none, none, (some (.str (.ofString "Link") 351)), (some (.str (.ofString "Link") 359)), (some (.builtin "object.__new__")), (some (.bool true))]⟩
noncomputable def o_192 : Params → Obj := fun _ => ⟨(.type "getset_descriptor"), none, (.fields #[(.str (.ofString "__dict__") 373), (.ref 141), (.builtin "function.__dict__"), (.builtin "function.__dict__#set")]), #[]⟩
noncomputable def o_193 : Params → Obj := fun _ => ⟨(.type "getset_descriptor"), none, (.fields #[(.str (.ofString "__weakref__") 375), (.ref 141), (.builtin "ExceptionGroup.__weakref__"), .none]), #[]⟩
noncomputable def o_205 : Params → Obj := fun _ => ⟨(.type "tuple"), none, (.seq #[] 0), #[]⟩
noncomputable def o_207 : Params → Obj := fun _ => ⟨(.type "tuple"), none, (.seq #[(.str (.ofString "self") 395), (.str (.ofString "value") 396)] 0), #[]⟩
noncomputable def o_208 : Params → Obj := fun _ => ⟨(.type "tuple"), none, (.seq #[] 0), #[]⟩
noncomputable def o_210 : Params → Obj := fun _ => ⟨(.type "code"), none, (.fields #[(.str (.ofString "__init__") 392), (.str (.ofString "Plain.__init__") 393), (.str (.ofString "/claim/cut.py") 394), (.int 34 0), (.int 2 0), (.int 0 0), (.int 0 0), (.int 3 0), (.ref 153), (.bool true), (.int 181 0), (.ref 154), .none, (.ref 155), (.ref 156), (.ref 157), (.int 397 0), (.int 34 0), (.str (.ofString "/claim/cut.py") 398)]), #[]⟩
noncomputable def o_211 : Params → Obj := fun _ => ⟨(.type "function"), none, (.func ⟨(.ofString "__init__"), (.ofString "Plain.__init__"), (fP (kid (top 9) 0)), (.stmts (fB (kid (top 9) 0))), (fS (kid (top 9) 0)), 3, [], .none, .none, .none, (.str (.ofString "lazycore.heap") 236), none, (.ref 158), .none, 0⟩), #[]⟩
noncomputable def o_212 : Params → Obj := fun _ => ⟨(.type "tuple"), none, (.seq #[(.str (.ofString "value") 400)] 0), #[]⟩
noncomputable def o_213 : Params → Obj := fun P => ⟨(.type "dict"), none, (.dict #[⟨(PyData.keyHash P (.ofString "__module__")), (.str (.ofString "__module__") 387), (.str (.ofString "lazycore.heap") 236)⟩, ⟨(PyData.keyHash P (.ofString "__firstlineno__")), (.str (.ofString "__firstlineno__") 391), (.int 32 390)⟩, ⟨(PyData.keyHash P (.ofString "__init__")), (.str (.ofString "__init__") 399), (.ref 159)⟩, ⟨(PyData.keyHash P (.ofString "__static_attributes__")), (.str (.ofString "__static_attributes__") 401), (.ref 160)⟩, ⟨(PyData.keyHash P (.ofString "__dict__")), (.str (.ofString "__dict__") 403), (.ref 163)⟩, ⟨(PyData.keyHash P (.ofString "__weakref__")), (.str (.ofString "__weakref__") 405), (.ref 164)⟩, ⟨(PyData.keyHash P (.ofString "__doc__")), (.str (.ofString "__doc__") 406), .none⟩] 4), #[]⟩
noncomputable def o_214 : Params → Obj := fun _ => ⟨(.type "type"), none, (.cls ⟨(.ofString "Plain"), [(.type "object")], [(.ref 162), (.type "object")], 161, (.ofString "Plain"), true, [], [], false, none, false⟩), #[none, none, (some (.str (.ofString "Plain") 380)), (some (.str (.ofString "Plain") 388)), (some (.builtin "object.__new__")), (some (.bool true))]⟩
noncomputable def o_215 : Params → Obj := fun _ => ⟨(.type "getset_descriptor"), none, (.fields #[(.str (.ofString "__dict__") 402), (.ref 162), (.builtin "function.__dict__"), (.builtin "function.__dict__#set")]), #[]⟩
noncomputable def o_216 : Params → Obj := fun _ => ⟨(.type "getset_descriptor"), none, (.fields #[(.str (.ofString "__weakref__") 404), (.ref 162), (.builtin "ExceptionGroup.__weakref__"), .none]), #[]⟩
noncomputable def o_228 : Params → Obj := fun _ => ⟨(.type "tuple"), none, (.seq #[] 0), #[]⟩
noncomputable def o_230 : Params → Obj := fun _ => ⟨(.type "tuple"), none, (.seq #[(.str (.ofString "self") 424), (.str (.ofString "con") 425), (.str (.ofString "values") 426)] 0), #[]⟩
noncomputable def o_231 : Params → Obj := fun _ => ⟨(.type "tuple"), none, (.seq #[] 0), #[]⟩
noncomputable def o_233 : Params → Obj := fun _ => ⟨(.type "code"), none, (.fields #[(.str (.ofString "__init__") 421), (.str (.ofString "Data.__init__") 422), (.str (.ofString "/claim/cut.py") 423), (.int 38 0), (.int 3 0), (.int 0 0), (.int 0 0), (.int 3 0), (.ref 174), (.bool true), (.int 181 0), (.ref 175), .none, (.ref 176), (.ref 177), (.ref 178), (.int 427 0), (.int 38 0), (.str (.ofString "/claim/cut.py") 428)]), #[]⟩
noncomputable def o_234 : Params → Obj := fun _ => ⟨(.type "function"), none, (.func ⟨(.ofString "__init__"), (.ofString "Data.__init__"), (fP (kid (top 10) 0)), (.stmts (fB (kid (top 10) 0))), (fS (kid (top 10) 0)), 3, [], .none, .none, .none, (.str (.ofString "lazycore.heap") 236), none, (.ref 179), .none, 0⟩), #[]⟩
noncomputable def o_235 : Params → Obj := fun _ => ⟨(.type "tuple"), none, (.seq #[(.str (.ofString "con") 430), (.str (.ofString "values") 431)] 0), #[]⟩
noncomputable def o_236 : Params → Obj := fun P => ⟨(.type "dict"), none, (.dict #[⟨(PyData.keyHash P (.ofString "__module__")), (.str (.ofString "__module__") 416), (.str (.ofString "lazycore.heap") 236)⟩, ⟨(PyData.keyHash P (.ofString "__firstlineno__")), (.str (.ofString "__firstlineno__") 420), (.int 36 419)⟩, ⟨(PyData.keyHash P (.ofString "__init__")), (.str (.ofString "__init__") 429), (.ref 180)⟩, ⟨(PyData.keyHash P (.ofString "__static_attributes__")), (.str (.ofString "__static_attributes__") 432), (.ref 181)⟩, ⟨(PyData.keyHash P (.ofString "__dict__")), (.str (.ofString "__dict__") 434), (.ref 184)⟩, ⟨(PyData.keyHash P (.ofString "__weakref__")), (.str (.ofString "__weakref__") 436), (.ref 185)⟩, ⟨(PyData.keyHash P (.ofString "__doc__")), (.str (.ofString "__doc__") 437), .none⟩] 4), #[]⟩
noncomputable def o_237 : Params → Obj := fun _ => ⟨(.type "type"), none, (.cls ⟨(.ofString "Data"), [(.type "object")], [(.ref 183), (.type "object")], 182, (.ofString "Data"), true, [], [], false, none, false⟩), #[none, none, (some (.str (.ofString "Data") 409)), (some (.str (.ofString "Data") 417)), (some (.builtin "object.__new__")), (some (.bool true))]⟩
noncomputable def o_238 : Params → Obj := fun _ => ⟨(.type "getset_descriptor"), none, (.fields #[(.str (.ofString "__dict__") 433), (.ref 183), (.builtin "function.__dict__"), (.builtin "function.__dict__#set")]), #[]⟩
noncomputable def o_239 : Params → Obj := fun _ => ⟨(.type "getset_descriptor"), none, (.fields #[(.str (.ofString "__weakref__") 435), (.ref 183), (.builtin "ExceptionGroup.__weakref__"), .none]), #[]⟩
noncomputable def o_251 : Params → Obj := fun _ => ⟨(.type "tuple"), none, (.seq #[] 0), #[]⟩
noncomputable def o_253 : Params → Obj := fun _ => ⟨(.type "tuple"), none, (.seq #[(.str (.ofString "self") 455)] 0), #[]⟩
noncomputable def o_254 : Params → Obj := fun _ => ⟨(.type "tuple"), none, (.seq #[] 0), #[]⟩
noncomputable def o_256 : Params → Obj := fun _ => ⟨(.type "code"), none, (.fields #[(.str (.ofString "__init__") 452), (.str (.ofString "Heap.__init__") 453), (.str (.ofString "/claim/cut.py") 454), (.int 43 0), (.int 1 0), (.int 0 0), (.int 0 0), (.int 3 0), (.ref 195), (.bool true), (.int 181 0), (.ref 196), .none, (.ref 197), (.ref 198), (.ref 199), (.int 456 0), (.int 43 0), (.str (.ofString "/claim/cut.py") 457)]), #[]⟩
noncomputable def o_257 : Params → Obj := fun _ => ⟨(.type "function"), none, (.func ⟨(.ofString "__init__"), (.ofString "Heap.__init__"), (fP (kid (top 11) 0)), (.stmts (fB (kid (top 11) 0))), (fS (kid (top 11) 0)), 3, [], .none, .none, .none, (.str (.ofString "lazycore.heap") 236), none, (.ref 200), .none, 0⟩), #[]⟩
noncomputable def o_258 : Params → Obj := fun _ => ⟨(.type "tuple"), none, (.seq #[] 0), #[]⟩
noncomputable def o_260 : Params → Obj := fun _ => ⟨(.type "tuple"), none, (.seq #[(.str (.ofString "self") 462), (.str (.ofString "cell") 463), (.str (.ofString "address") 464)] 0), #[]⟩
noncomputable def o_261 : Params → Obj := fun _ => ⟨(.type "tuple"), none, (.seq #[] 0), #[]⟩
noncomputable def o_263 : Params → Obj := fun _ => ⟨(.type "code"), none, (.fields #[(.str (.ofString "new") 459), (.str (.ofString "Heap.new") 460), (.str (.ofString "/claim/cut.py") 461), (.int 47 0), (.int 2 0), (.int 0 0), (.int 0 0), (.int 3 0), (.ref 202), (.bool true), (.int 181 0), (.ref 203), .none, (.ref 204), (.ref 205), (.ref 206), (.int 465 0), (.int 47 0), (.str (.ofString "/claim/cut.py") 466)]), #[]⟩
noncomputable def o_264 : Params → Obj := fun _ => ⟨(.type "function"), none, (.func ⟨(.ofString "new"), (.ofString "Heap.new"), (fP (kid (top 11) 1)), (.stmts (fB (kid (top 11) 1))), (fS (kid (top 11) 1)), 3, [], .none, .none, .none, (.str (.ofString "lazycore.heap") 236), none, (.ref 207), .none, 0⟩), #[]⟩
noncomputable def o_265 : Params → Obj := fun _ => ⟨(.type "tuple"), none, (.seq #[] 0), #[]⟩
noncomputable def o_267 : Params → Obj := fun _ => ⟨(.type "tuple"), none, (.seq #[(.str (.ofString "self") 471), (.str (.ofString "address") 472)] 0), #[]⟩
noncomputable def o_268 : Params → Obj := fun _ => ⟨(.type "tuple"), none, (.seq #[] 0), #[]⟩
noncomputable def o_270 : Params → Obj := fun _ => ⟨(.type "code"), none, (.fields #[(.str (.ofString "get") 468), (.str (.ofString "Heap.get") 469), (.str (.ofString "/claim/cut.py") 470), (.int 53 0), (.int 2 0), (.int 0 0), (.int 0 0), (.int 3 0), (.ref 209), (.bool true), (.int 181 0), (.ref 210), .none, (.ref 211), (.ref 212), (.ref 213), (.int 473 0), (.int 53 0), (.str (.ofString "/claim/cut.py") 474)]), #[]⟩
noncomputable def o_271 : Params → Obj := fun _ => ⟨(.type "function"), none, (.func ⟨(.ofString "get"), (.ofString "Heap.get"), (fP (kid (top 11) 2)), (.stmts (fB (kid (top 11) 2))), (fS (kid (top 11) 2)), 3, [], .none, .none, .none, (.str (.ofString "lazycore.heap") 236), none, (.ref 214), .none, 0⟩), #[]⟩
noncomputable def o_272 : Params → Obj := fun _ => ⟨(.type "tuple"), none, (.seq #[] 0), #[]⟩
noncomputable def o_274 : Params → Obj := fun _ => ⟨(.type "tuple"), none, (.seq #[(.str (.ofString "self") 479), (.str (.ofString "address") 480), (.str (.ofString "cell") 481)] 0), #[]⟩
noncomputable def o_275 : Params → Obj := fun _ => ⟨(.type "tuple"), none, (.seq #[] 0), #[]⟩
noncomputable def o_277 : Params → Obj := fun _ => ⟨(.type "code"), none, (.fields #[(.str (.ofString "put") 476), (.str (.ofString "Heap.put") 477), (.str (.ofString "/claim/cut.py") 478), (.int 58 0), (.int 3 0), (.int 0 0), (.int 0 0), (.int 3 0), (.ref 216), (.bool true), (.int 181 0), (.ref 217), .none, (.ref 218), (.ref 219), (.ref 220), (.int 482 0), (.int 58 0), (.str (.ofString "/claim/cut.py") 483)]), #[]⟩
noncomputable def o_278 : Params → Obj := fun _ => ⟨(.type "function"), none, (.func ⟨(.ofString "put"), (.ofString "Heap.put"), (fP (kid (top 11) 3)), (.stmts (fB (kid (top 11) 3))), (fS (kid (top 11) 3)), 3, [], .none, .none, .none, (.str (.ofString "lazycore.heap") 236), none, (.ref 221), .none, 0⟩), #[]⟩
noncomputable def o_279 : Params → Obj := fun _ => ⟨(.type "tuple"), none, (.seq #[] 0), #[]⟩
noncomputable def o_281 : Params → Obj := fun _ => ⟨(.type "tuple"), none, (.seq #[(.str (.ofString "self") 488)] 0), #[]⟩
noncomputable def o_282 : Params → Obj := fun _ => ⟨(.type "tuple"), none, (.seq #[] 0), #[]⟩
noncomputable def o_284 : Params → Obj := fun _ => ⟨(.type "code"), none, (.fields #[(.str (.ofString "many") 485), (.str (.ofString "Heap.many") 486), (.str (.ofString "/claim/cut.py") 487), (.int 61 0), (.int 1 0), (.int 0 0), (.int 0 0), (.int 3 0), (.ref 223), (.bool true), (.int 181 0), (.ref 224), .none, (.ref 225), (.ref 226), (.ref 227), (.int 489 0), (.int 61 0), (.str (.ofString "/claim/cut.py") 490)]), #[]⟩
noncomputable def o_285 : Params → Obj := fun _ => ⟨(.type "function"), none, (.func ⟨(.ofString "many"), (.ofString "Heap.many"), (fP (kid (top 11) 4)), (.stmts (fB (kid (top 11) 4))), (fS (kid (top 11) 4)), 3, [], .none, .none, .none, (.str (.ofString "lazycore.heap") 236), none, (.ref 228), .none, 0⟩), #[]⟩
noncomputable def o_286 : Params → Obj := fun _ => ⟨(.type "tuple"), none, (.seq #[(.str (.ofString "cells") 492), (.str (.ofString "next") 493)] 0), #[]⟩
noncomputable def o_287 : Params → Obj := fun P => ⟨(.type "dict"), none, (.dict #[⟨(PyData.keyHash P (.ofString "__module__")), (.str (.ofString "__module__") 447), (.str (.ofString "lazycore.heap") 236)⟩, ⟨(PyData.keyHash P (.ofString "__firstlineno__")), (.str (.ofString "__firstlineno__") 451), (.int 41 450)⟩, ⟨(PyData.keyHash P (.ofString "__init__")), (.str (.ofString "__init__") 458), (.ref 201)⟩, ⟨(PyData.keyHash P (.ofString "new")), (.str (.ofString "new") 467), (.ref 208)⟩, ⟨(PyData.keyHash P (.ofString "get")), (.str (.ofString "get") 475), (.ref 215)⟩, ⟨(PyData.keyHash P (.ofString "put")), (.str (.ofString "put") 484), (.ref 222)⟩, ⟨(PyData.keyHash P (.ofString "many")), (.str (.ofString "many") 491), (.ref 229)⟩, ⟨(PyData.keyHash P (.ofString "__static_attributes__")), (.str (.ofString "__static_attributes__") 494), (.ref 230)⟩, ⟨(PyData.keyHash P (.ofString "__dict__")), (.str (.ofString "__dict__") 496), (.ref 233)⟩, ⟨(PyData.keyHash P (.ofString "__weakref__")), (.str (.ofString "__weakref__") 498), (.ref 234)⟩, ⟨(PyData.keyHash P (.ofString "__doc__")), (.str (.ofString "__doc__") 499), .none⟩] 4), #[]⟩
noncomputable def o_288 : Params → Obj := fun _ => ⟨(.type "type"), none, (.cls ⟨(.ofString "Heap"), [(.type "object")], [(.ref 232), (.type "object")], 231, (.ofString "Heap"), true, [], [], false, none, false⟩), #[none, none, (some (.str (.ofString "Heap") 440)), (some (.str (.ofString "Heap") 448)), (some (.builtin "object.__new__")), (some (.bool true))]⟩
noncomputable def o_289 : Params → Obj := fun _ => ⟨(.type "getset_descriptor"), none, (.fields #[(.str (.ofString "__dict__") 495), (.ref 232), (.builtin "function.__dict__"), (.builtin "function.__dict__#set")]), #[]⟩
noncomputable def o_290 : Params → Obj := fun _ => ⟨(.type "getset_descriptor"), none, (.fields #[(.str (.ofString "__weakref__") 497), (.ref 232), (.builtin "ExceptionGroup.__weakref__"), .none]), #[]⟩
noncomputable def o_293 : Params → Obj := fun _ => ⟨(.type "tuple"), none, (.seq #[] 0), #[]⟩
noncomputable def o_295 : Params → Obj := fun _ => ⟨(.type "tuple"), none, (.seq #[(.str (.ofString "value") 507), (.str (.ofString "moved") 508)] 0), #[]⟩
noncomputable def o_296 : Params → Obj := fun _ => ⟨(.type "tuple"), none, (.seq #[] 0), #[]⟩
noncomputable def o_298 : Params → Obj := fun _ => ⟨(.type "code"), none, (.fields #[(.str (.ofString "value_moved") 504), (.str (.ofString "value_moved") 505), (.str (.ofString "/claim/cut.py") 506), (.int 64 0), (.int 2 0), (.int 0 0), (.int 0 0), (.int 3 0), (.ref 237), (.bool true), (.int 181 0), (.ref 238), .none, (.ref 239), (.ref 240), (.ref 241), (.int 509 0), (.int 64 0), (.str (.ofString "/claim/cut.py") 510)]), #[]⟩
noncomputable def o_299 : Params → Obj := fun _ => ⟨(.type "function"), none, (.func ⟨(.ofString "value_moved"), (.ofString "value_moved"), (fP (top 13)), (.stmts (fB (top 13))), (fS (top 13)), 3, [], .none, .none, .none, (.str (.ofString "lazycore.collector") 502), none, (.ref 242), .none, 0⟩), #[]⟩
noncomputable def o_309 : Params → Obj := fun _ => ⟨(.type "tuple"), none, (.seq #[] 0), #[]⟩
noncomputable def o_311 : Params → Obj := fun _ => ⟨(.type "tuple"), none, (.seq #[(.str (.ofString "self") 527), (.str (.ofString "heap") 528)] 0), #[]⟩
noncomputable def o_312 : Params → Obj := fun _ => ⟨(.type "tuple"), none, (.seq #[] 0), #[]⟩
noncomputable def o_314 : Params → Obj := fun _ => ⟨(.type "code"), none, (.fields #[(.str (.ofString "__init__") 524), (.str (.ofString "Collector.__init__") 525), (.str (.ofString "/claim/cut.py") 526), (.int 70 0), (.int 2 0), (.int 0 0), (.int 0 0), (.int 3 0), (.ref 251), (.bool true), (.int 181 0), (.ref 252), .none, (.ref 253), (.ref 254), (.ref 255), (.int 529 0), (.int 70 0), (.str (.ofString "/claim/cut.py") 530)]), #[]⟩
noncomputable def o_315 : Params → Obj := fun _ => ⟨(.type "function"), none, (.func ⟨(.ofString "__init__"), (.ofString "Collector.__init__"), (fP (kid (top 14) 0)), (.stmts (fB (kid (top 14) 0))), (fS (kid (top 14) 0)), 3, [], .none, .none, .none, (.str (.ofString "lazycore.collector") 502), none, (.ref 256), .none, 0⟩), #[]⟩
noncomputable def o_316 : Params → Obj := fun _ => ⟨(.type "tuple"), none, (.seq #[] 0), #[]⟩
noncomputable def o_318 : Params → Obj := fun _ => ⟨(.type "tuple"), none, (.seq #[(.str (.ofString "self") 535), (.str (.ofString "address") 536), (.str (.ofString "passed") 537), (.str (.ofString "cell") 538)] 0), #[]⟩
noncomputable def o_319 : Params → Obj := fun _ => ⟨(.type "tuple"), none, (.seq #[] 0), #[]⟩
noncomputable def o_321 : Params → Obj := fun _ => ⟨(.type "code"), none, (.fields #[(.str (.ofString "links_from") 532), (.str (.ofString "Collector.links_from") 533), (.str (.ofString "/claim/cut.py") 534), (.int 76 0), (.int 2 0), (.int 0 0), (.int 0 0), (.int 3 0), (.ref 258), (.bool true), (.int 181 0), (.ref 259), .none, (.ref 260), (.ref 261), (.ref 262), (.int 539 0), (.int 76 0), (.str (.ofString "/claim/cut.py") 540)]), #[]⟩
noncomputable def o_322 : Params → Obj := fun _ => ⟨(.type "function"), none, (.func ⟨(.ofString "links_from"), (.ofString "Collector.links_from"), (fP (kid (top 14) 1)), (.stmts (fB (kid (top 14) 1))), (fS (kid (top 14) 1)), 3, [], .none, .none, .none, (.str (.ofString "lazycore.collector") 502), none, (.ref 263), .none, 0⟩), #[]⟩
noncomputable def o_323 : Params → Obj := fun _ => ⟨(.type "tuple"), none, (.seq #[] 0), #[]⟩
noncomputable def o_325 : Params → Obj := fun _ => ⟨(.type "tuple"), none, (.seq #[(.str (.ofString "self") 545), (.str (.ofString "address") 546), (.str (.ofString "passed") 547), (.str (.ofString "end") 548), (.str (.ofString "cell") 549), (.str (.ofString "link") 550)] 0), #[]⟩
noncomputable def o_326 : Params → Obj := fun _ => ⟨(.type "tuple"), none, (.seq #[] 0), #[]⟩
noncomputable def o_328 : Params → Obj := fun _ => ⟨(.type "code"), none, (.fields #[(.str (.ofString "move") 542), (.str (.ofString "Collector.move") 543), (.str (.ofString "/claim/cut.py") 544), (.int 87 0), (.int 2 0), (.int 0 0), (.int 0 0), (.int 3 0), (.ref 265), (.bool true), (.int 181 0), (.ref 266), .none, (.ref 267), (.ref 268), (.ref 269), (.int 551 0), (.int 87 0), (.str (.ofString "/claim/cut.py") 552)]), #[]⟩
noncomputable def o_329 : Params → Obj := fun _ => ⟨(.type "function"), none, (.func ⟨(.ofString "move"), (.ofString "Collector.move"), (fP (kid (top 14) 2)), (.stmts (fB (kid (top 14) 2))), (fS (kid (top 14) 2)), 3, [], .none, .none, .none, (.str (.ofString "lazycore.collector") 502), none, (.ref 270), .none, 0⟩), #[]⟩
noncomputable def o_330 : Params → Obj := fun _ => ⟨(.type "tuple"), none, (.seq #[] 0), #[]⟩
noncomputable def o_332 : Params → Obj := fun _ => ⟨(.type "tuple"), none, (.seq #[(.str (.ofString "self") 557), (.str (.ofString "value") 558)] 0), #[]⟩
noncomputable def o_333 : Params → Obj := fun _ => ⟨(.type "tuple"), none, (.seq #[] 0), #[]⟩
noncomputable def o_335 : Params → Obj := fun _ => ⟨(.type "code"), none, (.fields #[(.str (.ofString "move_value") 554), (.str (.ofString "Collector.move_value") 555), (.str (.ofString "/claim/cut.py") 556), (.int 99 0), (.int 2 0), (.int 0 0), (.int 0 0), (.int 3 0), (.ref 272), (.bool true), (.int 181 0), (.ref 273), .none, (.ref 274), (.ref 275), (.ref 276), (.int 559 0), (.int 99 0), (.str (.ofString "/claim/cut.py") 560)]), #[]⟩
noncomputable def o_336 : Params → Obj := fun _ => ⟨(.type "function"), none, (.func ⟨(.ofString "move_value"), (.ofString "Collector.move_value"), (fP (kid (top 14) 3)), (.stmts (fB (kid (top 14) 3))), (fS (kid (top 9) 0)), 3, [], .none, .none, .none, (.str (.ofString "lazycore.collector") 502), none, (.ref 277), .none, 0⟩), #[]⟩
noncomputable def o_337 : Params → Obj := fun _ => ⟨(.type "tuple"), none, (.seq #[] 0), #[]⟩
noncomputable def o_340 : Params → Obj := fun _ => ⟨(.type "code"), none, (.fields #[(.str (.ofString "move_values") 562), (.str (.ofString "Collector.move_values") 563), (.str (.ofString "/claim/cut.py") 564), (.int 104 0), (.int 2 0), (.int 0 0), (.int 0 0), (.int 3 0), (.ref 279), (.bool true), (.int 181 0), (.ref 280), .none, .none, .none, (.ref 281), (.int 565 0), (.int 104 0), (.str (.ofString "/claim/cut.py") 566)]), #[]⟩
noncomputable def o_341 : Params → Obj := fun _ => ⟨(.type "function"), none, (.func ⟨(.ofString "move_values"), (.ofString "Collector.move_values"), (fP (kid (top 14) 4)), (.stmts (fB (kid (top 14) 4))), (fS (kid (top 14) 4)), 3, [], .none, .none, .none, (.str (.ofString "lazycore.collector") 502), none, (.ref 282), .none, 0⟩), #[]⟩
noncomputable def o_342 : Params → Obj := fun _ => ⟨(.type "tuple"), none, (.seq #[] 0), #[]⟩
noncomputable def o_344 : Params → Obj := fun _ => ⟨(.type "tuple"), none, (.seq #[(.str (.ofString "self") 571), (.str (.ofString "cell") 572)] 0), #[]⟩
noncomputable def o_345 : Params → Obj := fun _ => ⟨(.type "tuple"), none, (.seq #[] 0), #[]⟩
noncomputable def o_347 : Params → Obj := fun _ => ⟨(.type "code"), none, (.fields #[(.str (.ofString "copied") 568), (.str (.ofString "Collector.copied") 569), (.str (.ofString "/claim/cut.py") 570), (.int 107 0), (.int 2 0), (.int 0 0), (.int 0 0), (.int 3 0), (.ref 284), (.bool true), (.int 181 0), (.ref 285), .none, (.ref 286), (.ref 287), (.ref 288), (.int 573 0), (.int 107 0), (.str (.ofString "/claim/cut.py") 574)]), #[]⟩
noncomputable def o_348 : Params → Obj := fun _ => ⟨(.type "function"), none, (.func ⟨(.ofString "copied"), (.ofString "Collector.copied"), (fP (kid (top 14) 5)), (.stmts (fB (kid (top 14) 5))), (fS (kid (top 14) 5)), 3, [], .none, .none, .none, (.str (.ofString "lazycore.collector") 502), none, (.ref 289), .none, 0⟩), #[]⟩
noncomputable def o_349 : Params → Obj := fun _ => ⟨(.type "tuple"), none, (.seq #[] 0), #[]⟩
noncomputable def o_351 : Params → Obj := fun _ => ⟨(.type "tuple"), none, (.seq #[(.str (.ofString "self") 579), (.str (.ofString "at") 580), (.str (.ofString "old") 581)] 0), #[]⟩
noncomputable def o_352 : Params → Obj := fun _ => ⟨(.type "tuple"), none, (.seq #[] 0), #[]⟩
noncomputable def o_354 : Params → Obj := fun _ => ⟨(.type "code"), none, (.fields #[(.str (.ofString "run") 576), (.str (.ofString "Collector.run") 577), (.str (.ofString "/claim/cut.py") 578), (.int 122 0), (.int 1 0), (.int 0 0), (.int 0 0), (.int 3 0), (.ref 291), (.bool true), (.int 181 0), (.ref 292), .none, (.ref 293), (.ref 294), (.ref 295), (.int 582 0), (.int 122 0), (.str (.ofString "/claim/cut.py") 583)]), #[]⟩
noncomputable def o_355 : Params → Obj := fun _ => ⟨(.type "function"), none, (.func ⟨(.ofString "run"), (.ofString "Collector.run"), (fP (kid (top 14) 6)), (.stmts (fB (kid (top 14) 6))), (fS (kid (top 14) 6)), 3, [], .none, .none, .none, (.str (.ofString "lazycore.collector") 502), none, (.ref 296), .none, 0⟩), #[]⟩
noncomputable def o_356 : Params → Obj := fun _ => ⟨(.type "tuple"), none, (.seq #[(.str (.ofString "fresh") 585), (.str (.ofString "heap") 586), (.str (.ofString "moved") 587), (.str (.ofString "waiting") 588)] 0), #[]⟩
noncomputable def o_357 : Params → Obj := fun P => ⟨(.type "dict"), none, (.dict #[⟨(PyData.keyHash P (.ofString "__module__")), (.str (.ofString "__module__") 519), (.str (.ofString "lazycore.collector") 502)⟩, ⟨(PyData.keyHash P (.ofString "__firstlineno__")), (.str (.ofString "__firstlineno__") 523), (.int 68 522)⟩, ⟨(PyData.keyHash P (.ofString "__init__")), (.str (.ofString "__init__") 531), (.ref 257)⟩, ⟨(PyData.keyHash P (.ofString "links_from")), (.str (.ofString "links_from") 541), (.ref 264)⟩, ⟨(PyData.keyHash P (.ofString "move")), (.str (.ofString "move") 553), (.ref 271)⟩, ⟨(PyData.keyHash P (.ofString "move_value")), (.str (.ofString "move_value") 561), (.ref 278)⟩, ⟨(PyData.keyHash P (.ofString "move_values")), (.str (.ofString "move_values") 567), (.ref 283)⟩, ⟨(PyData.keyHash P (.ofString "copied")), (.str (.ofString "copied") 575), (.ref 290)⟩, ⟨(PyData.keyHash P (.ofString "run")), (.str (.ofString "run") 584), (.ref 297)⟩, ⟨(PyData.keyHash P (.ofString "__static_attributes__")), (.str (.ofString "__static_attributes__") 589), (.ref 298)⟩, ⟨(PyData.keyHash P (.ofString "__dict__")), (.str (.ofString "__dict__") 591), (.ref 301)⟩, ⟨(PyData.keyHash P (.ofString "__weakref__")), (.str (.ofString "__weakref__") 593), (.ref 302)⟩, ⟨(PyData.keyHash P (.ofString "__doc__")), (.str (.ofString "__doc__") 594), .none⟩] 4), #[]⟩
noncomputable def o_358 : Params → Obj := fun _ => ⟨(.type "type"), none, (.cls ⟨(.ofString "Collector"), [(.type "object")], [(.ref 300), (.type "object")], 299, (.ofString "Collector"), true, [], [], false, none, false⟩), #[none, none, (some (.str (.ofString "Collector") 512)), (some (.str (.ofString "Collector") 520)), (some (.builtin "object.__new__")), (some (.bool true))]⟩
noncomputable def o_359 : Params → Obj := fun _ => ⟨(.type "getset_descriptor"), none, (.fields #[(.str (.ofString "__dict__") 590), (.ref 300), (.builtin "function.__dict__"), (.builtin "function.__dict__#set")]), #[]⟩
noncomputable def o_360 : Params → Obj := fun _ => ⟨(.type "getset_descriptor"), none, (.fields #[(.str (.ofString "__weakref__") 592), (.ref 300), (.builtin "ExceptionGroup.__weakref__"), .none]), #[]⟩
noncomputable def o_365 : Params → Obj := fun _ => ⟨(.type "tuple"), none, (.seq #[] 0), #[]⟩
noncomputable def o_367 : Params → Obj := fun _ => ⟨(.type "tuple"), none, (.seq #[(.str (.ofString "heap") 600), (.str (.ofString "roots") 601), (.str (.ofString "collector") 602), (.str (.ofString "address") 603)] 0), #[]⟩
noncomputable def o_368 : Params → Obj := fun _ => ⟨(.type "tuple"), none, (.seq #[] 0), #[]⟩
noncomputable def o_370 : Params → Obj := fun _ => ⟨(.type "code"), none, (.fields #[(.str (.ofString "collected") 597), (.str (.ofString "collected") 598), (.str (.ofString "/claim/cut.py") 599), (.int 128 0), (.int 2 0), (.int 0 0), (.int 0 0), (.int 3 0), (.ref 305), (.bool true), (.int 181 0), (.ref 306), .none, (.ref 307), (.ref 308), (.ref 309), (.int 604 0), (.int 128 0), (.str (.ofString "/claim/cut.py") 605)]), #[]⟩
noncomputable def o_371 : Params → Obj := fun _ => ⟨(.type "function"), none, (.func ⟨(.ofString "collected"), (.ofString "collected"), (fP (top 15)), (.stmts (fB (top 15))), (fS (top 15)), 3, [], .none, .none, .none, (.str (.ofString "lazycore.collector") 502), none, (.ref 310), .none, 0⟩), #[]⟩
noncomputable def o_372 : Params → Obj := fun _ => ⟨(.type "tuple"), none, (.seq #[] 0), #[]⟩
noncomputable def o_375 : Params → Obj := fun _ => ⟨(.type "code"), none, (.fields #[(.str (.ofString "values_roots") 607), (.str (.ofString "values_roots") 608), (.str (.ofString "/claim/cut.py") 609), (.int 134 0), (.int 1 0), (.int 0 0), (.int 0 0), (.int 3 0), (.ref 312), (.bool true), (.int 181 0), (.ref 313), .none, .none, .none, (.ref 314), (.int 610 0), (.int 134 0), (.str (.ofString "/claim/cut.py") 611)]), #[]⟩
noncomputable def o_376 : Params → Obj := fun _ => ⟨(.type "function"), none, (.func ⟨(.ofString "values_roots"), (.ofString "values_roots"), (fP (top 16)), (.stmts (fB (top 16))), (fS (top 16)), 3, [], .none, .none, .none, (.str (.ofString "lazycore.collector") 502), none, (.ref 315), .none, 0⟩), #[]⟩
noncomputable def o_377 : Params → Obj := fun _ => ⟨(.type "tuple"), none, (.seq #[] 0), #[]⟩
noncomputable def o_379 : Params → Obj := fun _ => ⟨(.type "tuple"), none, (.seq #[(.str (.ofString "script") 618), (.str (.ofString "big") 619), (.str (.ofString "mixed") 620), (.str (.ofString "k") 621)] 0), #[]⟩
noncomputable def o_380 : Params → Obj := fun _ => ⟨(.type "tuple"), none, (.seq #[] 0), #[]⟩
noncomputable def o_382 : Params → Obj := fun _ => ⟨(.type "code"), none, (.fields #[(.str (.ofString "_law_pool") 615), (.str (.ofString "_law_pool") 616), (.str (.ofString "/claim/cut.py") 617), (.int 137 0), (.int 1 0), (.int 0 0), (.int 0 0), (.int 3 0), (.ref 317), (.bool true), (.int 181 0), (.ref 318), .none, (.ref 319), (.ref 320), (.ref 321), (.int 622 0), (.int 137 0), (.str (.ofString "/claim/cut.py") 623)]), #[]⟩
noncomputable def o_383 : Params → Obj := fun _ => ⟨(.type "function"), none, (.func ⟨(.ofString "_law_pool"), (.ofString "_law_pool"), (fP (top 18)), (.stmts (fB (top 18))), (fS (top 18)), 3, [], .none, .none, .none, (.str (.ofString "law_np0229_01") 613), none, (.ref 322), .none, 0⟩), #[]⟩
noncomputable def o_384 : Params → Obj := fun _ => ⟨(.type "tuple"), none, (.seq #[] 0), #[]⟩
noncomputable def o_386 : Params → Obj := fun _ => ⟨(.type "tuple"), none, (.seq #[(.str (.ofString "source") 628), (.str (.ofString "top") 629), (.str (.ofString "digit") 630)] 0), #[]⟩
noncomputable def o_387 : Params → Obj := fun _ => ⟨(.type "tuple"), none, (.seq #[] 0), #[]⟩
noncomputable def o_389 : Params → Obj := fun _ => ⟨(.type "code"), none, (.fields #[(.str (.ofString "_law_take") 625), (.str (.ofString "_law_take") 626), (.str (.ofString "/claim/cut.py") 627), (.int 145 0), (.int 2 0), (.int 0 0), (.int 0 0), (.int 3 0), (.ref 324), (.bool true), (.int 181 0), (.ref 325), .none, (.ref 326), (.ref 327), (.ref 328), (.int 631 0), (.int 145 0), (.str (.ofString "/claim/cut.py") 632)]), #[]⟩
noncomputable def o_390 : Params → Obj := fun _ => ⟨(.type "function"), none, (.func ⟨(.ofString "_law_take"), (.ofString "_law_take"), (fP (top 19)), (.stmts (fB (top 19))), (fS (top 19)), 3, [], .none, .none, .none, (.str (.ofString "law_np0229_01") 613), none, (.ref 329), .none, 0⟩), #[]⟩
noncomputable def o_391 : Params → Obj := fun _ => ⟨(.type "tuple"), none, (.seq #[] 0), #[]⟩
noncomputable def o_393 : Params → Obj := fun _ => ⟨(.type "tuple"), none, (.seq #[(.str (.ofString "source") 637), (.str (.ofString "many") 638), (.str (.ofString "found") 639), (.str (.ofString "turn") 640), (.str (.ofString "way") 641)] 0), #[]⟩
noncomputable def o_394 : Params → Obj := fun _ => ⟨(.type "tuple"), none, (.seq #[] 0), #[]⟩
noncomputable def o_396 : Params → Obj := fun _ => ⟨(.type "code"), none, (.fields #[(.str (.ofString "_law_values") 634), (.str (.ofString "_law_values") 635), (.str (.ofString "/claim/cut.py") 636), (.int 152 0), (.int 2 0), (.int 0 0), (.int 0 0), (.int 3 0), (.ref 331), (.bool true), (.int 181 0), (.ref 332), .none, (.ref 333), (.ref 334), (.ref 335), (.int 642 0), (.int 152 0), (.str (.ofString "/claim/cut.py") 643)]), #[]⟩
noncomputable def o_397 : Params → Obj := fun _ => ⟨(.type "function"), none, (.func ⟨(.ofString "_law_values"), (.ofString "_law_values"), (fP (top 20)), (.stmts (fB (top 20))), (fS (top 20)), 3, [], .none, .none, .none, (.str (.ofString "law_np0229_01") 613), none, (.ref 336), .none, 0⟩), #[]⟩
noncomputable def o_398 : Params → Obj := fun _ => ⟨(.type "tuple"), none, (.seq #[] 0), #[]⟩
noncomputable def o_401 : Params → Obj := fun _ => ⟨(.type "code"), none, (.fields #[(.str (.ofString "_law_rows") 645), (.str (.ofString "_law_rows") 646), (.str (.ofString "/claim/cut.py") 647), (.int 158 0), (.int 1 0), (.int 0 0), (.int 0 0), (.int 3 0), (.ref 338), (.bool true), (.int 181 0), (.ref 339), .none, .none, .none, (.ref 340), (.int 648 0), (.int 158 0), (.str (.ofString "/claim/cut.py") 649)]), #[]⟩
noncomputable def o_402 : Params → Obj := fun _ => ⟨(.type "function"), none, (.func ⟨(.ofString "_law_rows"), (.ofString "_law_rows"), (fP (top 21)), (.stmts (fB (top 21))), (fS (top 21)), 3, [], .none, .none, .none, (.str (.ofString "law_np0229_01") 613), none, (.ref 341), .none, 0⟩), #[]⟩
noncomputable def o_403 : Params → Obj := fun _ => ⟨(.type "tuple"), none, (.seq #[] 0), #[]⟩
noncomputable def o_405 : Params → Obj := fun _ => ⟨(.type "tuple"), none, (.seq #[(.str (.ofString "row") 654), (.str (.ofString "kind") 655), (.str (.ofString "name") 656), (.str (.ofString "values") 657)] 0), #[]⟩
noncomputable def o_406 : Params → Obj := fun _ => ⟨(.type "tuple"), none, (.seq #[] 0), #[]⟩
noncomputable def o_408 : Params → Obj := fun _ => ⟨(.type "code"), none, (.fields #[(.str (.ofString "_law_cell") 651), (.str (.ofString "_law_cell") 652), (.str (.ofString "/claim/cut.py") 653), (.int 173 0), (.int 1 0), (.int 0 0), (.int 0 0), (.int 3 0), (.ref 343), (.bool true), (.int 181 0), (.ref 344), .none, (.ref 345), (.ref 346), (.ref 347), (.int 658 0), (.int 173 0), (.str (.ofString "/claim/cut.py") 659)]), #[]⟩
noncomputable def o_409 : Params → Obj := fun _ => ⟨(.type "function"), none, (.func ⟨(.ofString "_law_cell"), (.ofString "_law_cell"), (fP (top 22)), (.stmts (fB (top 22))), (fS (top 22)), 3, [], .none, .none, .none, (.str (.ofString "law_np0229_01") 613), none, (.ref 348), .none, 0⟩), #[]⟩
noncomputable def o_410 : Params → Obj := fun _ => ⟨(.type "tuple"), none, (.seq #[] 0), #[]⟩
noncomputable def o_412 : Params → Obj := fun _ => ⟨(.type "tuple"), none, (.seq #[(.str (.ofString "cell") 664)] 0), #[]⟩
noncomputable def o_413 : Params → Obj := fun _ => ⟨(.type "tuple"), none, (.seq #[] 0), #[]⟩
noncomputable def o_415 : Params → Obj := fun _ => ⟨(.type "code"), none, (.fields #[(.str (.ofString "_law_row") 661), (.str (.ofString "_law_row") 662), (.str (.ofString "/claim/cut.py") 663), (.int 186 0), (.int 1 0), (.int 0 0), (.int 0 0), (.int 3 0), (.ref 350), (.bool true), (.int 181 0), (.ref 351), .none, (.ref 352), (.ref 353), (.ref 354), (.int 665 0), (.int 186 0), (.str (.ofString "/claim/cut.py") 666)]), #[]⟩
noncomputable def o_416 : Params → Obj := fun _ => ⟨(.type "function"), none, (.func ⟨(.ofString "_law_row"), (.ofString "_law_row"), (fP (top 23)), (.stmts (fB (top 23))), (fS (top 23)), 3, [], .none, .none, .none, (.str (.ofString "law_np0229_01") 613), none, (.ref 355), .none, 0⟩), #[]⟩
noncomputable def o_417 : Params → Obj := fun _ => ⟨(.type "tuple"), none, (.seq #[] 0), #[]⟩
noncomputable def o_419 : Params → Obj := fun _ => ⟨(.type "tuple"), none, (.seq #[(.str (.ofString "rows") 671), (.str (.ofString "at") 672)] 0), #[]⟩
noncomputable def o_420 : Params → Obj := fun _ => ⟨(.type "tuple"), none, (.seq #[] 0), #[]⟩
noncomputable def o_422 : Params → Obj := fun _ => ⟨(.type "code"), none, (.fields #[(.str (.ofString "_law_end") 668), (.str (.ofString "_law_end") 669), (.str (.ofString "/claim/cut.py") 670), (.int 198 0), (.int 2 0), (.int 0 0), (.int 0 0), (.int 3 0), (.ref 357), (.bool true), (.int 181 0), (.ref 358), .none, (.ref 359), (.ref 360), (.ref 361), (.int 673 0), (.int 198 0), (.str (.ofString "/claim/cut.py") 674)]), #[]⟩
noncomputable def o_423 : Params → Obj := fun _ => ⟨(.type "function"), none, (.func ⟨(.ofString "_law_end"), (.ofString "_law_end"), (fP (top 24)), (.stmts (fB (top 24))), (fS (top 24)), 3, [], .none, .none, .none, (.str (.ofString "law_np0229_01") 613), none, (.ref 362), .none, 0⟩), #[]⟩
noncomputable def o_424 : Params → Obj := fun _ => ⟨(.type "tuple"), none, (.seq #[] 0), #[]⟩
noncomputable def o_427 : Params → Obj := fun _ => ⟨(.type "code"), none, (.fields #[(.str (.ofString "_law_named") 676), (.str (.ofString "_law_named") 677), (.str (.ofString "/claim/cut.py") 678), (.int 202 0), (.int 2 0), (.int 0 0), (.int 0 0), (.int 3 0), (.ref 364), (.bool true), (.int 181 0), (.ref 365), .none, .none, .none, (.ref 366), (.int 679 0), (.int 202 0), (.str (.ofString "/claim/cut.py") 680)]), #[]⟩
noncomputable def o_428 : Params → Obj := fun _ => ⟨(.type "function"), none, (.func ⟨(.ofString "_law_named"), (.ofString "_law_named"), (fP (top 25)), (.stmts (fB (top 25))), (fS (top 25)), 3, [], .none, .none, .none, (.str (.ofString "law_np0229_01") 613), none, (.ref 367), .none, 0⟩), #[]⟩
noncomputable def o_429 : Params → Obj := fun _ => ⟨(.type "tuple"), none, (.seq #[] 0), #[]⟩
noncomputable def o_431 : Params → Obj := fun _ => ⟨(.type "tuple"), none, (.seq #[(.str (.ofString "rows") 685), (.str (.ofString "roots") 686), (.str (.ofString "found") 687), (.str (.ofString "left") 688), (.str (.ofString "at") 689)] 0), #[]⟩
noncomputable def o_432 : Params → Obj := fun _ => ⟨(.type "tuple"), none, (.seq #[] 0), #[]⟩
noncomputable def o_434 : Params → Obj := fun _ => ⟨(.type "code"), none, (.fields #[(.str (.ofString "_law_reached") 682), (.str (.ofString "_law_reached") 683), (.str (.ofString "/claim/cut.py") 684), (.int 205 0), (.int 2 0), (.int 0 0), (.int 0 0), (.int 3 0), (.ref 369), (.bool true), (.int 181 0), (.ref 370), .none, (.ref 371), (.ref 372), (.ref 373), (.int 690 0), (.int 205 0), (.str (.ofString "/claim/cut.py") 691)]), #[]⟩
noncomputable def o_435 : Params → Obj := fun _ => ⟨(.type "function"), none, (.func ⟨(.ofString "_law_reached"), (.ofString "_law_reached"), (fP (top 26)), (.stmts (fB (top 26))), (fS (top 26)), 3, [], .none, .none, .none, (.str (.ofString "law_np0229_01") 613), none, (.ref 374), .none, 0⟩), #[]⟩
noncomputable def o_436 : Params → Obj := fun _ => ⟨(.type "tuple"), none, (.seq #[] 0), #[]⟩
noncomputable def o_439 : Params → Obj := fun _ => ⟨(.type "code"), none, (.fields #[(.str (.ofString "_law_mended") 693), (.str (.ofString "_law_mended") 694), (.str (.ofString "/claim/cut.py") 695), (.int 213 0), (.int 3 0), (.int 0 0), (.int 0 0), (.int 3 0), (.ref 376), (.bool true), (.int 181 0), (.ref 377), .none, .none, .none, (.ref 378), (.int 696 0), (.int 213 0), (.str (.ofString "/claim/cut.py") 697)]), #[]⟩
noncomputable def o_440 : Params → Obj := fun _ => ⟨(.type "function"), none, (.func ⟨(.ofString "_law_mended"), (.ofString "_law_mended"), (fP (top 27)), (.stmts (fB (top 27))), (fS (top 27)), 3, [], .none, .none, .none, (.str (.ofString "law_np0229_01") 613), none, (.ref 379), .none, 0⟩), #[]⟩
noncomputable def o_441 : Params → Obj := fun _ => ⟨(.type "tuple"), none, (.seq #[] 0), #[]⟩
noncomputable def o_444 : Params → Obj := fun _ => ⟨(.type "code"), none, (.fields #[(.str (.ofString "law") 699), (.str (.ofString "law") 700), (.str (.ofString "/claim/cut.py") 701), (.int 219 0), (.int 1 0), (.int 0 0), (.int 0 0), (.int 3 0), (.ref 381), (.bool true), (.int 181 0), (.ref 382), .none, .none, .none, (.ref 383), (.int 702 0), (.int 219 0), (.str (.ofString "/claim/cut.py") 703)]), #[]⟩
noncomputable def o_445 : Params → Obj := fun _ => ⟨(.type "function"), none, (.func ⟨(.ofString "law"), (.ofString "law"), (fP (top 28)), (.stmts (fB (top 28))), (fS (top 28)), 3, [], .none, .none, .none, (.str (.ofString "law_np0229_01") 613), none, (.ref 384), .none, 0⟩), #[]⟩
noncomputable def o_43 : Params → Obj := fun _ => ⟨(.type "tuple"), none, (.seq #[] 0), #[]⟩
noncomputable def o_44 : Params → Obj := fun _ => ⟨.none, none, (.fields #[]), #[]⟩
noncomputable def o_45 : Params → Obj := fun _ => ⟨(.type "code"), none, (.fields #[(.str (.ofString "<module>") 182), (.str (.ofString "<module>") 183), (.str (.ofString "/claim/cut.py") 184), (.int 1 0), (.int 0 0), (.int 0 0), (.int 0 0), (.int 0 0), (.ref 11), (.bool false), (.int 181 0), (.ref 12), .none, .none, .none, .none, (.int 185 0), (.int 1 0), (.str (.ofString "/claim/cut.py") 186)]), #[]⟩
noncomputable def o_46 : Params → Obj := fun _ => ⟨(.type "frame"), none, .plain, #[(some (.ref 13)), (some (.ref 3)), (some (.ref 3)), none, (some (.str (.ofString "__main__") 164)), none, (some (.ref 0))]⟩
noncomputable def o_53 : Params → Obj := fun _ => ⟨(.type "builtin_function_or_method"), none, (.fields #[(.builtin "type.__prepare__"), (.type "type")]), #[]⟩
noncomputable def o_54 : Params → Obj := fun P => ⟨(.type "dict"), none, (.dict #[⟨(PyData.keyHash P (.ofString "__module__")), (.str (.ofString "__module__") 196), (.str (.ofString "lazycore.errors") 187)⟩, ⟨(PyData.keyHash P (.ofString "__qualname__")), (.str (.ofString "__qualname__") 198), (.str (.ofString "LazyError") 197)⟩, ⟨(PyData.keyHash P (.ofString "__firstlineno__")), (.str (.ofString "__firstlineno__") 200), (.int 2 199)⟩, ⟨(PyData.keyHash P (.ofString "__init__")), (.str (.ofString "__init__") 209), (.ref 29)⟩, ⟨(PyData.keyHash P (.ofString "__static_attributes__")), (.str (.ofString "__static_attributes__") 212), (.ref 30)⟩] 5), #[]⟩
noncomputable def o_55 : Params → Obj := fun _ => ⟨(.type "tuple"), none, (.seq #[] 0), #[]⟩
noncomputable def o_56 : Params → Obj := fun _ => ⟨.none, none, (.fields #[(.int 4 0), (.int 4 0), (.ref 28)]), #[]⟩
noncomputable def o_57 : Params → Obj := fun _ => ⟨(.type "code"), none, (.fields #[(.str (.ofString "LazyError") 191), (.str (.ofString "LazyError") 192), (.str (.ofString "/claim/cut.py") 193), (.int 2 0), (.int 0 0), (.int 0 0), (.int 0 0), (.int 0 0), (.ref 18), (.bool false), (.int 181 0), (.ref 19), .none, .none, .none, .none, (.int 194 0), (.int 2 0), (.str (.ofString "/claim/cut.py") 195)]), #[]⟩
noncomputable def o_58 : Params → Obj := fun _ => ⟨(.type "frame"), none, .plain, #[(some (.ref 20)), (some (.ref 3)), (some (.ref 17)), none, (some (.str (.ofString "lazycore.errors") 187)), none, (some (.ref 0))]⟩
noncomputable def o_61 : Params → Obj := fun _ => ⟨.none, none, (.fields #[]), #[]⟩
noncomputable def o_64 : Params → Obj := fun _ => ⟨.none, none, (.func ⟨(.ofString "__init__"), (.ofString "LazyError.__init__"), (fP (kid (top 1) 0)), (.stmts (fB (kid (top 1) 0))), (fS (kid (top 1) 0)), 0, [], .none, .none, .none, .none, none, .none, .none, 0⟩), #[]⟩
noncomputable def o_71 : Params → Obj := fun _ => ⟨(.type "super"), none, (.fields #[(.ref 32), (.ref 32), (.ref 32)]), #[]⟩
noncomputable def o_72 : Params → Obj := fun _ => ⟨(.type "builtin_function_or_method"), none, (.fields #[(.builtin "object.__init_subclass__"), (.ref 32)]), #[]⟩
noncomputable def o_77 : Params → Obj := fun _ => ⟨(.type "builtin_function_or_method"), none, (.fields #[(.builtin "type.__prepare__"), (.type "type")]), #[]⟩
noncomputable def o_78 : Params → Obj := fun P => ⟨(.type "dict"), none, (.dict #[⟨(PyData.keyHash P (.ofString "__module__")), (.str (.ofString "__module__") 227), (.str (.ofString "lazycore.errors") 187)⟩, ⟨(PyData.keyHash P (.ofString "__qualname__")), (.str (.ofString "__qualname__") 229), (.str (.ofString "MachineError") 228)⟩, ⟨(PyData.keyHash P (.ofString "__firstlineno__")), (.str (.ofString "__firstlineno__") 231), (.int 8 230)⟩, ⟨(PyData.keyHash P (.ofString "__static_attributes__")), (.str (.ofString "__static_attributes__") 232), (.ref 43)⟩] 4), #[]⟩
noncomputable def o_79 : Params → Obj := fun _ => ⟨(.type "tuple"), none, (.seq #[] 0), #[]⟩
noncomputable def o_80 : Params → Obj := fun _ => ⟨.none, none, (.fields #[]), #[]⟩
noncomputable def o_81 : Params → Obj := fun _ => ⟨(.type "code"), none, (.fields #[(.str (.ofString "MachineError") 222), (.str (.ofString "MachineError") 223), (.str (.ofString "/claim/cut.py") 224), (.int 8 0), (.int 0 0), (.int 0 0), (.int 0 0), (.int 0 0), (.ref 39), (.bool false), (.int 181 0), (.ref 40), .none, .none, .none, .none, (.int 225 0), (.int 8 0), (.str (.ofString "/claim/cut.py") 226)]), #[]⟩
noncomputable def o_82 : Params → Obj := fun _ => ⟨(.type "frame"), none, .plain, #[(some (.ref 41)), (some (.ref 3)), (some (.ref 38)), none, (some (.str (.ofString "lazycore.errors") 187)), none, (some (.ref 0))]⟩
noncomputable def o_86 : Params → Obj := fun _ => ⟨(.type "super"), none, (.fields #[(.ref 45), (.ref 45), (.ref 45)]), #[]⟩
noncomputable def o_87 : Params → Obj := fun _ => ⟨(.type "builtin_function_or_method"), none, (.fields #[(.builtin "object.__init_subclass__"), (.ref 45)]), #[]⟩
noncomputable def o_90 : Params → Obj := fun _ => ⟨(.type "tuple"), none, (.seq #[] 0), #[]⟩
noncomputable def o_91 : Params → Obj := fun _ => ⟨(.type "builtin_function_or_method"), none, (.fields #[(.builtin "type.__prepare__"), (.type "type")]), #[]⟩
noncomputable def o_92 : Params → Obj := fun P => ⟨(.type "dict"), none, (.dict #[⟨(PyData.keyHash P (.ofString "__module__")), (.str (.ofString "__module__") 245), (.str (.ofString "lazycore.heap") 236)⟩, ⟨(PyData.keyHash P (.ofString "__qualname__")), (.str (.ofString "__qualname__") 247), (.str (.ofString "Function") 246)⟩, ⟨(PyData.keyHash P (.ofString "__firstlineno__")), (.str (.ofString "__firstlineno__") 249), (.int 11 248)⟩, ⟨(PyData.keyHash P (.ofString "__init__")), (.str (.ofString "__init__") 258), (.ref 61)⟩, ⟨(PyData.keyHash P (.ofString "__static_attributes__")), (.str (.ofString "__static_attributes__") 261), (.ref 62)⟩] 5), #[]⟩
noncomputable def o_93 : Params → Obj := fun _ => ⟨(.type "tuple"), none, (.seq #[] 0), #[]⟩
noncomputable def o_94 : Params → Obj := fun _ => ⟨.none, none, (.fields #[(.int 13 0), (.int 4 0), (.ref 60)]), #[]⟩
noncomputable def o_95 : Params → Obj := fun _ => ⟨(.type "code"), none, (.fields #[(.str (.ofString "Function") 240), (.str (.ofString "Function") 241), (.str (.ofString "/claim/cut.py") 242), (.int 11 0), (.int 0 0), (.int 0 0), (.int 0 0), (.int 0 0), (.ref 51), (.bool false), (.int 181 0), (.ref 52), .none, .none, .none, .none, (.int 243 0), (.int 11 0), (.str (.ofString "/claim/cut.py") 244)]), #[]⟩
noncomputable def o_96 : Params → Obj := fun _ => ⟨(.type "frame"), none, .plain, #[(some (.ref 53)), (some (.ref 3)), (some (.ref 50)), none, (some (.str (.ofString "lazycore.heap") 236)), none, (some (.ref 0))]⟩
noncomputable def o_98 : Params → Obj := fun _ => ⟨.none, none, (.fields #[]), #[]⟩
noncomputable def o_101 : Params → Obj := fun _ => ⟨.none, none, (.func ⟨(.ofString "__init__"), (.ofString "Function.__init__"), (fP (kid (top 4) 0)), (.stmts (fB (kid (top 4) 0))), (fS (kid (top 4) 0)), 0, [], .none, .none, .none, .none, none, .none, .none, 0⟩), #[]⟩
noncomputable def o_109 : Params → Obj := fun _ => ⟨(.type "super"), none, (.fields #[(.ref 64), (.ref 64), (.ref 64)]), #[]⟩
noncomputable def o_110 : Params → Obj := fun _ => ⟨(.type "builtin_function_or_method"), none, (.fields #[(.builtin "object.__init_subclass__"), (.ref 64)]), #[]⟩
noncomputable def o_111 : Params → Obj := fun P => ⟨(.type "dict"), none, (.dict #[⟨(PyData.keyHash P (.ofString "__name__")), (.str (.ofString "__name__") 165), (.str (.ofString "lazycore.heap") 236)⟩, ⟨(PyData.keyHash P (.ofString "__doc__")), (.str (.ofString "__doc__") 166), .none⟩, ⟨(PyData.keyHash P (.ofString "__package__")), (.str (.ofString "__package__") 167), .none⟩, ⟨(PyData.keyHash P (.ofString "__loader__")), (.str (.ofString "__loader__") 168), (.builtin "__main__.__loader__#opaque")⟩, ⟨(PyData.keyHash P (.ofString "__spec__")), (.str (.ofString "__spec__") 169), .none⟩, ⟨(PyData.keyHash P (.ofString "__annotations__")), (.str (.ofString "__annotations__") 170), (.ref 6)⟩, ⟨(PyData.keyHash P (.ofString "__builtins__")), (.str (.ofString "__builtins__") 171), (.ref 4)⟩, ⟨(PyData.keyHash P (.ofString "__file__")), (.str (.ofString "__file__") 173), (.str (.ofString "/claim/cut.py") 172)⟩, ⟨(PyData.keyHash P (.ofString "__cached__")), (.str (.ofString "__cached__") 174), .none⟩, ⟨(PyData.keyHash P (.ofString "LazyError")), (.str (.ofString "LazyError") 219), (.ref 32)⟩, ⟨(PyData.keyHash P (.ofString "MachineError")), (.str (.ofString "MachineError") 235), (.ref 45)⟩, ⟨(PyData.keyHash P (.ofString "Function")), (.str (.ofString "Function") 268), (.ref 64)⟩, ⟨(PyData.keyHash P (.ofString "Partial")), (.str (.ofString "Partial") 299), (.ref 85)⟩] 13), #[]⟩
noncomputable def o_112 : Params → Obj := fun _ => ⟨.none, none, (.fields #[(.int 2 0), (.int 0 0), (.ref 20), (.int 8 0), (.int 0 0), (.ref 41), (.int 11 0), (.int 0 0), (.ref 53), (.int 16 0), (.int 0 0), (.ref 74)]), #[]⟩
noncomputable def o_113 : Params → Obj := fun _ => ⟨(.type "tuple"), none, (.seq #[] 0), #[]⟩
noncomputable def o_114 : Params → Obj := fun _ => ⟨(.type "builtin_function_or_method"), none, (.fields #[(.builtin "type.__prepare__"), (.type "type")]), #[]⟩
noncomputable def o_115 : Params → Obj := fun P => ⟨(.type "dict"), none, (.dict #[⟨(PyData.keyHash P (.ofString "__module__")), (.str (.ofString "__module__") 276), (.str (.ofString "lazycore.heap") 236)⟩, ⟨(PyData.keyHash P (.ofString "__qualname__")), (.str (.ofString "__qualname__") 278), (.str (.ofString "Partial") 277)⟩, ⟨(PyData.keyHash P (.ofString "__firstlineno__")), (.str (.ofString "__firstlineno__") 280), (.int 16 279)⟩, ⟨(PyData.keyHash P (.ofString "__init__")), (.str (.ofString "__init__") 289), (.ref 82)⟩, ⟨(PyData.keyHash P (.ofString "__static_attributes__")), (.str (.ofString "__static_attributes__") 292), (.ref 83)⟩] 5), #[]⟩
noncomputable def o_116 : Params → Obj := fun _ => ⟨(.type "tuple"), none, (.seq #[] 0), #[]⟩
noncomputable def o_117 : Params → Obj := fun _ => ⟨.none, none, (.fields #[(.int 18 0), (.int 4 0), (.ref 81)]), #[]⟩
noncomputable def o_118 : Params → Obj := fun _ => ⟨(.type "code"), none, (.fields #[(.str (.ofString "Partial") 271), (.str (.ofString "Partial") 272), (.str (.ofString "/claim/cut.py") 273), (.int 16 0), (.int 0 0), (.int 0 0), (.int 0 0), (.int 0 0), (.ref 72), (.bool false), (.int 181 0), (.ref 73), .none, .none, .none, .none, (.int 274 0), (.int 16 0), (.str (.ofString "/claim/cut.py") 275)]), #[]⟩
noncomputable def o_119 : Params → Obj := fun _ => ⟨(.type "frame"), none, .plain, #[(some (.ref 74)), (some (.ref 3)), (some (.ref 71)), none, (some (.str (.ofString "lazycore.heap") 236)), none, (some (.ref 0))]⟩
noncomputable def o_121 : Params → Obj := fun _ => ⟨.none, none, (.fields #[]), #[]⟩
noncomputable def o_124 : Params → Obj := fun _ => ⟨.none, none, (.func ⟨(.ofString "__init__"), (.ofString "Partial.__init__"), (fP (kid (top 5) 0)), (.stmts (fB (kid (top 5) 0))), (fS (kid (top 5) 0)), 0, [], .none, .none, .none, .none, none, .none, .none, 0⟩), #[]⟩
noncomputable def o_132 : Params → Obj := fun _ => ⟨(.type "super"), none, (.fields #[(.ref 85), (.ref 85), (.ref 85)]), #[]⟩
noncomputable def o_133 : Params → Obj := fun _ => ⟨(.type "builtin_function_or_method"), none, (.fields #[(.builtin "object.__init_subclass__"), (.ref 85)]), #[]⟩
noncomputable def o_136 : Params → Obj := fun _ => ⟨(.type "tuple"), none, (.seq #[] 0), #[]⟩
noncomputable def o_137 : Params → Obj := fun _ => ⟨(.type "builtin_function_or_method"), none, (.fields #[(.builtin "type.__prepare__"), (.type "type")]), #[]⟩
noncomputable def o_138 : Params → Obj := fun P => ⟨(.type "dict"), none, (.dict #[⟨(PyData.keyHash P (.ofString "__module__")), (.str (.ofString "__module__") 307), (.str (.ofString "lazycore.heap") 236)⟩, ⟨(PyData.keyHash P (.ofString "__qualname__")), (.str (.ofString "__qualname__") 309), (.str (.ofString "Thunk") 308)⟩, ⟨(PyData.keyHash P (.ofString "__firstlineno__")), (.str (.ofString "__firstlineno__") 311), (.int 21 310)⟩, ⟨(PyData.keyHash P (.ofString "__init__")), (.str (.ofString "__init__") 320), (.ref 103)⟩, ⟨(PyData.keyHash P (.ofString "__static_attributes__")), (.str (.ofString "__static_attributes__") 323), (.ref 104)⟩] 5), #[]⟩
noncomputable def o_139 : Params → Obj := fun _ => ⟨(.type "tuple"), none, (.seq #[] 0), #[]⟩
noncomputable def o_140 : Params → Obj := fun _ => ⟨.none, none, (.fields #[(.int 23 0), (.int 4 0), (.ref 102)]), #[]⟩
noncomputable def o_141 : Params → Obj := fun _ => ⟨(.type "code"), none, (.fields #[(.str (.ofString "Thunk") 302), (.str (.ofString "Thunk") 303), (.str (.ofString "/claim/cut.py") 304), (.int 21 0), (.int 0 0), (.int 0 0), (.int 0 0), (.int 0 0), (.ref 93), (.bool false), (.int 181 0), (.ref 94), .none, .none, .none, .none, (.int 305 0), (.int 21 0), (.str (.ofString "/claim/cut.py") 306)]), #[]⟩
noncomputable def o_142 : Params → Obj := fun _ => ⟨(.type "frame"), none, .plain, #[(some (.ref 95)), (some (.ref 3)), (some (.ref 92)), none, (some (.str (.ofString "lazycore.heap") 236)), none, (some (.ref 0))]⟩
noncomputable def o_144 : Params → Obj := fun _ => ⟨.none, none, (.fields #[]), #[]⟩
noncomputable def o_147 : Params → Obj := fun _ => ⟨.none, none, (.func ⟨(.ofString "__init__"), (.ofString "Thunk.__init__"), (fP (kid (top 6) 0)), (.stmts (fB (kid (top 6) 0))), (fS (kid (top 4) 0)), 0, [], .none, .none, .none, .none, none, .none, .none, 0⟩), #[]⟩
noncomputable def o_155 : Params → Obj := fun _ => ⟨(.type "super"), none, (.fields #[(.ref 106), (.ref 106), (.ref 106)]), #[]⟩
noncomputable def o_156 : Params → Obj := fun _ => ⟨(.type "builtin_function_or_method"), none, (.fields #[(.builtin "object.__init_subclass__"), (.ref 106)]), #[]⟩
noncomputable def o_159 : Params → Obj := fun _ => ⟨(.type "tuple"), none, (.seq #[] 0), #[]⟩
noncomputable def o_160 : Params → Obj := fun _ => ⟨(.type "builtin_function_or_method"), none, (.fields #[(.builtin "type.__prepare__"), (.type "type")]), #[]⟩
noncomputable def o_161 : Params → Obj := fun P => ⟨(.type "dict"), none, (.dict #[⟨(PyData.keyHash P (.ofString "__module__")), (.str (.ofString "__module__") 338), (.str (.ofString "lazycore.heap") 236)⟩, ⟨(PyData.keyHash P (.ofString "__qualname__")), (.str (.ofString "__qualname__") 340), (.str (.ofString "Hole") 339)⟩, ⟨(PyData.keyHash P (.ofString "__firstlineno__")), (.str (.ofString "__firstlineno__") 342), (.int 26 341)⟩, ⟨(PyData.keyHash P (.ofString "__static_attributes__")), (.str (.ofString "__static_attributes__") 343), (.ref 118)⟩] 4), #[]⟩
noncomputable def o_162 : Params → Obj := fun _ => ⟨(.type "tuple"), none, (.seq #[] 0), #[]⟩
noncomputable def o_163 : Params → Obj := fun _ => ⟨.none, none, (.fields #[]), #[]⟩
noncomputable def o_164 : Params → Obj := fun _ => ⟨(.type "code"), none, (.fields #[(.str (.ofString "Hole") 333), (.str (.ofString "Hole") 334), (.str (.ofString "/claim/cut.py") 335), (.int 26 0), (.int 0 0), (.int 0 0), (.int 0 0), (.int 0 0), (.ref 114), (.bool false), (.int 181 0), (.ref 115), .none, .none, .none, .none, (.int 336 0), (.int 26 0), (.str (.ofString "/claim/cut.py") 337)]), #[]⟩
noncomputable def o_165 : Params → Obj := fun _ => ⟨(.type "frame"), none, .plain, #[(some (.ref 116)), (some (.ref 3)), (some (.ref 113)), none, (some (.str (.ofString "lazycore.heap") 236)), none, (some (.ref 0))]⟩
noncomputable def o_171 : Params → Obj := fun _ => ⟨(.type "super"), none, (.fields #[(.ref 120), (.ref 120), (.ref 120)]), #[]⟩
noncomputable def o_172 : Params → Obj := fun _ => ⟨(.type "builtin_function_or_method"), none, (.fields #[(.builtin "object.__init_subclass__"), (.ref 120)]), #[]⟩
noncomputable def o_175 : Params → Obj := fun _ => ⟨(.type "tuple"), none, (.seq #[] 0), #[]⟩
noncomputable def o_176 : Params → Obj := fun _ => ⟨(.type "builtin_function_or_method"), none, (.fields #[(.builtin "type.__prepare__"), (.type "type")]), #[]⟩
noncomputable def o_177 : Params → Obj := fun P => ⟨(.type "dict"), none, (.dict #[⟨(PyData.keyHash P (.ofString "__module__")), (.str (.ofString "__module__") 358), (.str (.ofString "lazycore.heap") 236)⟩, ⟨(PyData.keyHash P (.ofString "__qualname__")), (.str (.ofString "__qualname__") 360), (.str (.ofString "Link") 359)⟩, ⟨(PyData.keyHash P (.ofString "__firstlineno__")), (.str (.ofString "__firstlineno__") 362), (.int 28 361)⟩, ⟨(PyData.keyHash P (.ofString "__init__")), (.str (.ofString "__init__") 370), (.ref 138)⟩, ⟨(PyData.keyHash P (.ofString "__static_attributes__")), (.str (.ofString "__static_attributes__") 372), (.ref 139)⟩] 5), #[]⟩
noncomputable def o_178 : Params → Obj := fun _ => ⟨(.type "tuple"), none, (.seq #[] 0), #[]⟩
noncomputable def o_179 : Params → Obj := fun _ => ⟨.none, none, (.fields #[(.int 30 0), (.int 4 0), (.ref 137)]), #[]⟩
noncomputable def o_180 : Params → Obj := fun _ => ⟨(.type "code"), none, (.fields #[(.str (.ofString "Link") 353), (.str (.ofString "Link") 354), (.str (.ofString "/claim/cut.py") 355), (.int 28 0), (.int 0 0), (.int 0 0), (.int 0 0), (.int 0 0), (.ref 128), (.bool false), (.int 181 0), (.ref 129), .none, .none, .none, .none, (.int 356 0), (.int 28 0), (.str (.ofString "/claim/cut.py") 357)]), #[]⟩
noncomputable def o_181 : Params → Obj := fun _ => ⟨(.type "frame"), none, .plain, #[(some (.ref 130)), (some (.ref 3)), (some (.ref 127)), none, (some (.str (.ofString "lazycore.heap") 236)), none, (some (.ref 0))]⟩
noncomputable def o_183 : Params → Obj := fun _ => ⟨.none, none, (.fields #[]), #[]⟩
noncomputable def o_186 : Params → Obj := fun _ => ⟨.none, none, (.func ⟨(.ofString "__init__"), (.ofString "Link.__init__"), (fP (kid (top 8) 0)), (.stmts (fB (kid (top 8) 0))), (fS (kid (top 8) 0)), 0, [], .none, .none, .none, .none, none, .none, .none, 0⟩), #[]⟩
noncomputable def o_194 : Params → Obj := fun _ => ⟨(.type "super"), none, (.fields #[(.ref 141), (.ref 141), (.ref 141)]), #[]⟩
noncomputable def o_195 : Params → Obj := fun _ => ⟨(.type "builtin_function_or_method"), none, (.fields #[(.builtin "object.__init_subclass__"), (.ref 141)]), #[]⟩
noncomputable def o_196 : Params → Obj := fun P => ⟨(.type "dict"), none, (.dict #[⟨(PyData.keyHash P (.ofString "__name__")), (.str (.ofString "__name__") 165), (.str (.ofString "lazycore.heap") 236)⟩, ⟨(PyData.keyHash P (.ofString "__doc__")), (.str (.ofString "__doc__") 166), .none⟩, ⟨(PyData.keyHash P (.ofString "__package__")), (.str (.ofString "__package__") 167), .none⟩, ⟨(PyData.keyHash P (.ofString "__loader__")), (.str (.ofString "__loader__") 168), (.builtin "__main__.__loader__#opaque")⟩, ⟨(PyData.keyHash P (.ofString "__spec__")), (.str (.ofString "__spec__") 169), .none⟩, ⟨(PyData.keyHash P (.ofString "__annotations__")), (.str (.ofString "__annotations__") 170), (.ref 6)⟩, ⟨(PyData.keyHash P (.ofString "__builtins__")), (.str (.ofString "__builtins__") 171), (.ref 4)⟩, ⟨(PyData.keyHash P (.ofString "__file__")), (.str (.ofString "__file__") 173), (.str (.ofString "/claim/cut.py") 172)⟩, ⟨(PyData.keyHash P (.ofString "__cached__")), (.str (.ofString "__cached__") 174), .none⟩, ⟨(PyData.keyHash P (.ofString "LazyError")), (.str (.ofString "LazyError") 219), (.ref 32)⟩, ⟨(PyData.keyHash P (.ofString "MachineError")), (.str (.ofString "MachineError") 235), (.ref 45)⟩, ⟨(PyData.keyHash P (.ofString "Function")), (.str (.ofString "Function") 268), (.ref 64)⟩, ⟨(PyData.keyHash P (.ofString "Partial")), (.str (.ofString "Partial") 299), (.ref 85)⟩, ⟨(PyData.keyHash P (.ofString "Thunk")), (.str (.ofString "Thunk") 330), (.ref 106)⟩, ⟨(PyData.keyHash P (.ofString "Hole")), (.str (.ofString "Hole") 350), (.ref 120)⟩, ⟨(PyData.keyHash P (.ofString "Link")), (.str (.ofString "Link") 379), (.ref 141)⟩, ⟨(PyData.keyHash P (.ofString "Plain")), (.str (.ofString "Plain") 408), (.ref 162)⟩] 17), #[]⟩
noncomputable def o_197 : Params → Obj := fun _ => ⟨.none, none, (.fields #[(.int 2 0), (.int 0 0), (.ref 20), (.int 8 0), (.int 0 0), (.ref 41), (.int 11 0), (.int 0 0), (.ref 53), (.int 16 0), (.int 0 0), (.ref 74), (.int 21 0), (.int 0 0), (.ref 95), (.int 26 0), (.int 0 0), (.ref 116), (.int 28 0), (.int 0 0), (.ref 130), (.int 32 0), (.int 0 0), (.ref 151)]), #[]⟩
noncomputable def o_198 : Params → Obj := fun _ => ⟨(.type "tuple"), none, (.seq #[] 0), #[]⟩
noncomputable def o_199 : Params → Obj := fun _ => ⟨(.type "builtin_function_or_method"), none, (.fields #[(.builtin "type.__prepare__"), (.type "type")]), #[]⟩
noncomputable def o_200 : Params → Obj := fun P => ⟨(.type "dict"), none, (.dict #[⟨(PyData.keyHash P (.ofString "__module__")), (.str (.ofString "__module__") 387), (.str (.ofString "lazycore.heap") 236)⟩, ⟨(PyData.keyHash P (.ofString "__qualname__")), (.str (.ofString "__qualname__") 389), (.str (.ofString "Plain") 388)⟩, ⟨(PyData.keyHash P (.ofString "__firstlineno__")), (.str (.ofString "__firstlineno__") 391), (.int 32 390)⟩, ⟨(PyData.keyHash P (.ofString "__init__")), (.str (.ofString "__init__") 399), (.ref 159)⟩, ⟨(PyData.keyHash P (.ofString "__static_attributes__")), (.str (.ofString "__static_attributes__") 401), (.ref 160)⟩] 5), #[]⟩
noncomputable def o_201 : Params → Obj := fun _ => ⟨(.type "tuple"), none, (.seq #[] 0), #[]⟩
noncomputable def o_202 : Params → Obj := fun _ => ⟨.none, none, (.fields #[(.int 34 0), (.int 4 0), (.ref 158)]), #[]⟩
noncomputable def o_203 : Params → Obj := fun _ => ⟨(.type "code"), none, (.fields #[(.str (.ofString "Plain") 382), (.str (.ofString "Plain") 383), (.str (.ofString "/claim/cut.py") 384), (.int 32 0), (.int 0 0), (.int 0 0), (.int 0 0), (.int 0 0), (.ref 149), (.bool false), (.int 181 0), (.ref 150), .none, .none, .none, .none, (.int 385 0), (.int 32 0), (.str (.ofString "/claim/cut.py") 386)]), #[]⟩
noncomputable def o_204 : Params → Obj := fun _ => ⟨(.type "frame"), none, .plain, #[(some (.ref 151)), (some (.ref 3)), (some (.ref 148)), none, (some (.str (.ofString "lazycore.heap") 236)), none, (some (.ref 0))]⟩
noncomputable def o_206 : Params → Obj := fun _ => ⟨.none, none, (.fields #[]), #[]⟩
noncomputable def o_209 : Params → Obj := fun _ => ⟨.none, none, (.func ⟨(.ofString "__init__"), (.ofString "Plain.__init__"), (fP (kid (top 9) 0)), (.stmts (fB (kid (top 9) 0))), (fS (kid (top 9) 0)), 0, [], .none, .none, .none, .none, none, .none, .none, 0⟩), #[]⟩
noncomputable def o_217 : Params → Obj := fun _ => ⟨(.type "super"), none, (.fields #[(.ref 162), (.ref 162), (.ref 162)]), #[]⟩
noncomputable def o_218 : Params → Obj := fun _ => ⟨(.type "builtin_function_or_method"), none, (.fields #[(.builtin "object.__init_subclass__"), (.ref 162)]), #[]⟩
noncomputable def o_221 : Params → Obj := fun _ => ⟨(.type "tuple"), none, (.seq #[] 0), #[]⟩
noncomputable def o_222 : Params → Obj := fun _ => ⟨(.type "builtin_function_or_method"), none, (.fields #[(.builtin "type.__prepare__"), (.type "type")]), #[]⟩
noncomputable def o_223 : Params → Obj := fun P => ⟨(.type "dict"), none, (.dict #[⟨(PyData.keyHash P (.ofString "__module__")), (.str (.ofString "__module__") 416), (.str (.ofString "lazycore.heap") 236)⟩, ⟨(PyData.keyHash P (.ofString "__qualname__")), (.str (.ofString "__qualname__") 418), (.str (.ofString "Data") 417)⟩, ⟨(PyData.keyHash P (.ofString "__firstlineno__")), (.str (.ofString "__firstlineno__") 420), (.int 36 419)⟩, ⟨(PyData.keyHash P (.ofString "__init__")), (.str (.ofString "__init__") 429), (.ref 180)⟩, ⟨(PyData.keyHash P (.ofString "__static_attributes__")), (.str (.ofString "__static_attributes__") 432), (.ref 181)⟩] 5), #[]⟩
noncomputable def o_224 : Params → Obj := fun _ => ⟨(.type "tuple"), none, (.seq #[] 0), #[]⟩
noncomputable def o_225 : Params → Obj := fun _ => ⟨.none, none, (.fields #[(.int 38 0), (.int 4 0), (.ref 179)]), #[]⟩
noncomputable def o_226 : Params → Obj := fun _ => ⟨(.type "code"), none, (.fields #[(.str (.ofString "Data") 411), (.str (.ofString "Data") 412), (.str (.ofString "/claim/cut.py") 413), (.int 36 0), (.int 0 0), (.int 0 0), (.int 0 0), (.int 0 0), (.ref 170), (.bool false), (.int 181 0), (.ref 171), .none, .none, .none, .none, (.int 414 0), (.int 36 0), (.str (.ofString "/claim/cut.py") 415)]), #[]⟩
noncomputable def o_227 : Params → Obj := fun _ => ⟨(.type "frame"), none, .plain, #[(some (.ref 172)), (some (.ref 3)), (some (.ref 169)), none, (some (.str (.ofString "lazycore.heap") 236)), none, (some (.ref 0))]⟩
noncomputable def o_229 : Params → Obj := fun _ => ⟨.none, none, (.fields #[]), #[]⟩
noncomputable def o_232 : Params → Obj := fun _ => ⟨.none, none, (.func ⟨(.ofString "__init__"), (.ofString "Data.__init__"), (fP (kid (top 10) 0)), (.stmts (fB (kid (top 10) 0))), (fS (kid (top 10) 0)), 0, [], .none, .none, .none, .none, none, .none, .none, 0⟩), #[]⟩
noncomputable def o_240 : Params → Obj := fun _ => ⟨(.type "super"), none, (.fields #[(.ref 183), (.ref 183), (.ref 183)]), #[]⟩
noncomputable def o_241 : Params → Obj := fun _ => ⟨(.type "builtin_function_or_method"), none, (.fields #[(.builtin "object.__init_subclass__"), (.ref 183)]), #[]⟩
noncomputable def o_242 : Params → Obj := fun P => ⟨(.type "dict"), none, (.dict #[⟨(PyData.keyHash P (.ofString "__name__")), (.str (.ofString "__name__") 165), (.str (.ofString "lazycore.collector") 502)⟩, ⟨(PyData.keyHash P (.ofString "__doc__")), (.str (.ofString "__doc__") 166), .none⟩, ⟨(PyData.keyHash P (.ofString "__package__")), (.str (.ofString "__package__") 167), .none⟩, ⟨(PyData.keyHash P (.ofString "__loader__")), (.str (.ofString "__loader__") 168), (.builtin "__main__.__loader__#opaque")⟩, ⟨(PyData.keyHash P (.ofString "__spec__")), (.str (.ofString "__spec__") 169), .none⟩, ⟨(PyData.keyHash P (.ofString "__annotations__")), (.str (.ofString "__annotations__") 170), (.ref 6)⟩, ⟨(PyData.keyHash P (.ofString "__builtins__")), (.str (.ofString "__builtins__") 171), (.ref 4)⟩, ⟨(PyData.keyHash P (.ofString "__file__")), (.str (.ofString "__file__") 173), (.str (.ofString "/claim/cut.py") 172)⟩, ⟨(PyData.keyHash P (.ofString "__cached__")), (.str (.ofString "__cached__") 174), .none⟩, ⟨(PyData.keyHash P (.ofString "LazyError")), (.str (.ofString "LazyError") 219), (.ref 32)⟩, ⟨(PyData.keyHash P (.ofString "MachineError")), (.str (.ofString "MachineError") 235), (.ref 45)⟩, ⟨(PyData.keyHash P (.ofString "Function")), (.str (.ofString "Function") 268), (.ref 64)⟩, ⟨(PyData.keyHash P (.ofString "Partial")), (.str (.ofString "Partial") 299), (.ref 85)⟩, ⟨(PyData.keyHash P (.ofString "Thunk")), (.str (.ofString "Thunk") 330), (.ref 106)⟩, ⟨(PyData.keyHash P (.ofString "Hole")), (.str (.ofString "Hole") 350), (.ref 120)⟩, ⟨(PyData.keyHash P (.ofString "Link")), (.str (.ofString "Link") 379), (.ref 141)⟩, ⟨(PyData.keyHash P (.ofString "Plain")), (.str (.ofString "Plain") 408), (.ref 162)⟩, ⟨(PyData.keyHash P (.ofString "Data")), (.str (.ofString "Data") 439), (.ref 183)⟩, ⟨(PyData.keyHash P (.ofString "Heap")), (.str (.ofString "Heap") 501), (.ref 232)⟩, ⟨(PyData.keyHash P (.ofString "value_moved")), (.str (.ofString "value_moved") 511), (.ref 243)⟩] 20), #[]⟩
noncomputable def o_243 : Params → Obj := fun _ => ⟨.none, none, (.fields #[(.int 2 0), (.int 0 0), (.ref 20), (.int 8 0), (.int 0 0), (.ref 41), (.int 11 0), (.int 0 0), (.ref 53), (.int 16 0), (.int 0 0), (.ref 74), (.int 21 0), (.int 0 0), (.ref 95), (.int 26 0), (.int 0 0), (.ref 116), (.int 28 0), (.int 0 0), (.ref 130), (.int 32 0), (.int 0 0), (.ref 151), (.int 36 0), (.int 0 0), (.ref 172), (.int 41 0), (.int 0 0), (.ref 193), (.int 64 0), (.int 0 0), (.ref 242)]), #[]⟩
noncomputable def o_244 : Params → Obj := fun _ => ⟨(.type "tuple"), none, (.seq #[] 0), #[]⟩
noncomputable def o_245 : Params → Obj := fun _ => ⟨(.type "builtin_function_or_method"), none, (.fields #[(.builtin "type.__prepare__"), (.type "type")]), #[]⟩
noncomputable def o_246 : Params → Obj := fun P => ⟨(.type "dict"), none, (.dict #[⟨(PyData.keyHash P (.ofString "__module__")), (.str (.ofString "__module__") 447), (.str (.ofString "lazycore.heap") 236)⟩, ⟨(PyData.keyHash P (.ofString "__qualname__")), (.str (.ofString "__qualname__") 449), (.str (.ofString "Heap") 448)⟩, ⟨(PyData.keyHash P (.ofString "__firstlineno__")), (.str (.ofString "__firstlineno__") 451), (.int 41 450)⟩, ⟨(PyData.keyHash P (.ofString "__init__")), (.str (.ofString "__init__") 458), (.ref 201)⟩, ⟨(PyData.keyHash P (.ofString "new")), (.str (.ofString "new") 467), (.ref 208)⟩, ⟨(PyData.keyHash P (.ofString "get")), (.str (.ofString "get") 475), (.ref 215)⟩, ⟨(PyData.keyHash P (.ofString "put")), (.str (.ofString "put") 484), (.ref 222)⟩, ⟨(PyData.keyHash P (.ofString "many")), (.str (.ofString "many") 491), (.ref 229)⟩, ⟨(PyData.keyHash P (.ofString "__static_attributes__")), (.str (.ofString "__static_attributes__") 494), (.ref 230)⟩] 9), #[]⟩
noncomputable def o_247 : Params → Obj := fun _ => ⟨(.type "tuple"), none, (.seq #[] 0), #[]⟩
noncomputable def o_248 : Params → Obj := fun _ => ⟨.none, none, (.fields #[(.int 43 0), (.int 4 0), (.ref 200), (.int 47 0), (.int 4 0), (.ref 207), (.int 53 0), (.int 4 0), (.ref 214), (.int 58 0), (.int 4 0), (.ref 221), (.int 61 0), (.int 4 0), (.ref 228)]), #[]⟩
noncomputable def o_249 : Params → Obj := fun _ => ⟨(.type "code"), none, (.fields #[(.str (.ofString "Heap") 442), (.str (.ofString "Heap") 443), (.str (.ofString "/claim/cut.py") 444), (.int 41 0), (.int 0 0), (.int 0 0), (.int 0 0), (.int 0 0), (.ref 191), (.bool false), (.int 181 0), (.ref 192), .none, .none, .none, .none, (.int 445 0), (.int 41 0), (.str (.ofString "/claim/cut.py") 446)]), #[]⟩
noncomputable def o_250 : Params → Obj := fun _ => ⟨(.type "frame"), none, .plain, #[(some (.ref 193)), (some (.ref 3)), (some (.ref 190)), none, (some (.str (.ofString "lazycore.heap") 236)), none, (some (.ref 0))]⟩
noncomputable def o_252 : Params → Obj := fun _ => ⟨.none, none, (.fields #[]), #[]⟩
noncomputable def o_255 : Params → Obj := fun _ => ⟨.none, none, (.func ⟨(.ofString "__init__"), (.ofString "Heap.__init__"), (fP (kid (top 11) 0)), (.stmts (fB (kid (top 11) 0))), (fS (kid (top 11) 0)), 0, [], .none, .none, .none, .none, none, .none, .none, 0⟩), #[]⟩
noncomputable def o_259 : Params → Obj := fun _ => ⟨.none, none, (.fields #[]), #[]⟩
noncomputable def o_262 : Params → Obj := fun _ => ⟨.none, none, (.func ⟨(.ofString "new"), (.ofString "Heap.new"), (fP (kid (top 11) 1)), (.stmts (fB (kid (top 11) 1))), (fS (kid (top 11) 1)), 0, [], .none, .none, .none, .none, none, .none, .none, 0⟩), #[]⟩
noncomputable def o_266 : Params → Obj := fun _ => ⟨.none, none, (.fields #[]), #[]⟩
noncomputable def o_269 : Params → Obj := fun _ => ⟨.none, none, (.func ⟨(.ofString "get"), (.ofString "Heap.get"), (fP (kid (top 11) 2)), (.stmts (fB (kid (top 11) 2))), (fS (kid (top 11) 2)), 0, [], .none, .none, .none, .none, none, .none, .none, 0⟩), #[]⟩
noncomputable def o_273 : Params → Obj := fun _ => ⟨.none, none, (.fields #[]), #[]⟩
noncomputable def o_276 : Params → Obj := fun _ => ⟨.none, none, (.func ⟨(.ofString "put"), (.ofString "Heap.put"), (fP (kid (top 11) 3)), (.stmts (fB (kid (top 11) 3))), (fS (kid (top 11) 3)), 0, [], .none, .none, .none, .none, none, .none, .none, 0⟩), #[]⟩
noncomputable def o_280 : Params → Obj := fun _ => ⟨.none, none, (.fields #[]), #[]⟩
noncomputable def o_283 : Params → Obj := fun _ => ⟨.none, none, (.func ⟨(.ofString "many"), (.ofString "Heap.many"), (fP (kid (top 11) 4)), (.stmts (fB (kid (top 11) 4))), (fS (kid (top 11) 4)), 0, [], .none, .none, .none, .none, none, .none, .none, 0⟩), #[]⟩
noncomputable def o_291 : Params → Obj := fun _ => ⟨(.type "super"), none, (.fields #[(.ref 232), (.ref 232), (.ref 232)]), #[]⟩
noncomputable def o_292 : Params → Obj := fun _ => ⟨(.type "builtin_function_or_method"), none, (.fields #[(.builtin "object.__init_subclass__"), (.ref 232)]), #[]⟩
noncomputable def o_294 : Params → Obj := fun _ => ⟨.none, none, (.fields #[]), #[]⟩
noncomputable def o_297 : Params → Obj := fun _ => ⟨.none, none, (.func ⟨(.ofString "value_moved"), (.ofString "value_moved"), (fP (top 13)), (.stmts (fB (top 13))), (fS (top 13)), 0, [], .none, .none, .none, .none, none, .none, .none, 0⟩), #[]⟩
noncomputable def o_302 : Params → Obj := fun _ => ⟨(.type "tuple"), none, (.seq #[] 0), #[]⟩
noncomputable def o_303 : Params → Obj := fun _ => ⟨(.type "builtin_function_or_method"), none, (.fields #[(.builtin "type.__prepare__"), (.type "type")]), #[]⟩
noncomputable def o_304 : Params → Obj := fun P => ⟨(.type "dict"), none, (.dict #[⟨(PyData.keyHash P (.ofString "__module__")), (.str (.ofString "__module__") 519), (.str (.ofString "lazycore.collector") 502)⟩, ⟨(PyData.keyHash P (.ofString "__qualname__")), (.str (.ofString "__qualname__") 521), (.str (.ofString "Collector") 520)⟩, ⟨(PyData.keyHash P (.ofString "__firstlineno__")), (.str (.ofString "__firstlineno__") 523), (.int 68 522)⟩, ⟨(PyData.keyHash P (.ofString "__init__")), (.str (.ofString "__init__") 531), (.ref 257)⟩, ⟨(PyData.keyHash P (.ofString "links_from")), (.str (.ofString "links_from") 541), (.ref 264)⟩, ⟨(PyData.keyHash P (.ofString "move")), (.str (.ofString "move") 553), (.ref 271)⟩, ⟨(PyData.keyHash P (.ofString "move_value")), (.str (.ofString "move_value") 561), (.ref 278)⟩, ⟨(PyData.keyHash P (.ofString "move_values")), (.str (.ofString "move_values") 567), (.ref 283)⟩, ⟨(PyData.keyHash P (.ofString "copied")), (.str (.ofString "copied") 575), (.ref 290)⟩, ⟨(PyData.keyHash P (.ofString "run")), (.str (.ofString "run") 584), (.ref 297)⟩, ⟨(PyData.keyHash P (.ofString "__static_attributes__")), (.str (.ofString "__static_attributes__") 589), (.ref 298)⟩] 11), #[]⟩
noncomputable def o_305 : Params → Obj := fun _ => ⟨(.type "tuple"), none, (.seq #[] 0), #[]⟩
noncomputable def o_306 : Params → Obj := fun _ => ⟨.none, none, (.fields #[(.int 70 0), (.int 4 0), (.ref 256), (.int 76 0), (.int 4 0), (.ref 263), (.int 87 0), (.int 4 0), (.ref 270), (.int 99 0), (.int 4 0), (.ref 277), (.int 104 0), (.int 4 0), (.ref 282), (.int 107 0), (.int 4 0), (.ref 289), (.int 122 0), (.int 4 0), (.ref 296)]), #[]⟩
noncomputable def o_307 : Params → Obj := fun _ => ⟨(.type "code"), none, (.fields #[(.str (.ofString "Collector") 514), (.str (.ofString "Collector") 515), (.str (.ofString "/claim/cut.py") 516), (.int 68 0), (.int 0 0), (.int 0 0), (.int 0 0), (.int 0 0), (.ref 247), (.bool false), (.int 181 0), (.ref 248), .none, .none, .none, .none, (.int 517 0), (.int 68 0), (.str (.ofString "/claim/cut.py") 518)]), #[]⟩
noncomputable def o_308 : Params → Obj := fun _ => ⟨(.type "frame"), none, .plain, #[(some (.ref 249)), (some (.ref 3)), (some (.ref 246)), none, (some (.str (.ofString "lazycore.collector") 502)), none, (some (.ref 0))]⟩
noncomputable def o_310 : Params → Obj := fun _ => ⟨.none, none, (.fields #[]), #[]⟩
noncomputable def o_313 : Params → Obj := fun _ => ⟨.none, none, (.func ⟨(.ofString "__init__"), (.ofString "Collector.__init__"), (fP (kid (top 14) 0)), (.stmts (fB (kid (top 14) 0))), (fS (kid (top 14) 0)), 0, [], .none, .none, .none, .none, none, .none, .none, 0⟩), #[]⟩
noncomputable def o_317 : Params → Obj := fun _ => ⟨.none, none, (.fields #[]), #[]⟩
noncomputable def o_320 : Params → Obj := fun _ => ⟨.none, none, (.func ⟨(.ofString "links_from"), (.ofString "Collector.links_from"), (fP (kid (top 14) 1)), (.stmts (fB (kid (top 14) 1))), (fS (kid (top 14) 1)), 0, [], .none, .none, .none, .none, none, .none, .none, 0⟩), #[]⟩
noncomputable def o_324 : Params → Obj := fun _ => ⟨.none, none, (.fields #[]), #[]⟩
noncomputable def o_327 : Params → Obj := fun _ => ⟨.none, none, (.func ⟨(.ofString "move"), (.ofString "Collector.move"), (fP (kid (top 14) 2)), (.stmts (fB (kid (top 14) 2))), (fS (kid (top 14) 2)), 0, [], .none, .none, .none, .none, none, .none, .none, 0⟩), #[]⟩
noncomputable def o_331 : Params → Obj := fun _ => ⟨.none, none, (.fields #[]), #[]⟩
noncomputable def o_334 : Params → Obj := fun _ => ⟨.none, none, (.func ⟨(.ofString "move_value"), (.ofString "Collector.move_value"), (fP (kid (top 14) 3)), (.stmts (fB (kid (top 14) 3))), (fS (kid (top 9) 0)), 0, [], .none, .none, .none, .none, none, .none, .none, 0⟩), #[]⟩
noncomputable def o_338 : Params → Obj := fun _ => ⟨.none, none, (.fields #[]), #[]⟩
noncomputable def o_339 : Params → Obj := fun _ => ⟨.none, none, (.func ⟨(.ofString "move_values"), (.ofString "Collector.move_values"), (fP (kid (top 14) 4)), (.stmts (fB (kid (top 14) 4))), (fS (kid (top 14) 4)), 0, [], .none, .none, .none, .none, none, .none, .none, 0⟩), #[]⟩
noncomputable def o_343 : Params → Obj := fun _ => ⟨.none, none, (.fields #[]), #[]⟩
noncomputable def o_346 : Params → Obj := fun _ => ⟨.none, none, (.func ⟨(.ofString "copied"), (.ofString "Collector.copied"), (fP (kid (top 14) 5)), (.stmts (fB (kid (top 14) 5))), (fS (kid (top 14) 5)), 0, [], .none, .none, .none, .none, none, .none, .none, 0⟩), #[]⟩
noncomputable def o_350 : Params → Obj := fun _ => ⟨.none, none, (.fields #[]), #[]⟩
noncomputable def o_353 : Params → Obj := fun _ => ⟨.none, none, (.func ⟨(.ofString "run"), (.ofString "Collector.run"), (fP (kid (top 14) 6)), (.stmts (fB (kid (top 14) 6))), (fS (kid (top 14) 6)), 0, [], .none, .none, .none, .none, none, .none, .none, 0⟩), #[]⟩
noncomputable def o_361 : Params → Obj := fun _ => ⟨(.type "super"), none, (.fields #[(.ref 300), (.ref 300), (.ref 300)]), #[]⟩
noncomputable def o_362 : Params → Obj := fun _ => ⟨(.type "builtin_function_or_method"), none, (.fields #[(.builtin "object.__init_subclass__"), (.ref 300)]), #[]⟩
noncomputable def o_364 : Params → Obj := fun _ => ⟨.none, none, (.fields #[(.int 2 0), (.int 0 0), (.ref 20), (.int 8 0), (.int 0 0), (.ref 41), (.int 11 0), (.int 0 0), (.ref 53), (.int 16 0), (.int 0 0), (.ref 74), (.int 21 0), (.int 0 0), (.ref 95), (.int 26 0), (.int 0 0), (.ref 116), (.int 28 0), (.int 0 0), (.ref 130), (.int 32 0), (.int 0 0), (.ref 151), (.int 36 0), (.int 0 0), (.ref 172), (.int 41 0), (.int 0 0), (.ref 193), (.int 64 0), (.int 0 0), (.ref 242), (.int 68 0), (.int 0 0), (.ref 249), (.int 128 0), (.int 0 0), (.ref 310), (.int 134 0), (.int 0 0), (.ref 315), (.int 137 0), (.int 0 0), (.ref 322), (.int 145 0), (.int 0 0), (.ref 329), (.int 152 0), (.int 0 0), (.ref 336), (.int 158 0), (.int 0 0), (.ref 341), (.int 173 0), (.int 0 0), (.ref 348), (.int 186 0), (.int 0 0), (.ref 355), (.int 198 0), (.int 0 0), (.ref 362), (.int 202 0), (.int 0 0), (.ref 367), (.int 205 0), (.int 0 0), (.ref 374), (.int 213 0), (.int 0 0), (.ref 379), (.int 219 0), (.int 0 0), (.ref 384)]), #[]⟩
noncomputable def o_366 : Params → Obj := fun _ => ⟨.none, none, (.fields #[]), #[]⟩
noncomputable def o_369 : Params → Obj := fun _ => ⟨.none, none, (.func ⟨(.ofString "collected"), (.ofString "collected"), (fP (top 15)), (.stmts (fB (top 15))), (fS (top 15)), 0, [], .none, .none, .none, .none, none, .none, .none, 0⟩), #[]⟩
noncomputable def o_373 : Params → Obj := fun _ => ⟨.none, none, (.fields #[]), #[]⟩
noncomputable def o_374 : Params → Obj := fun _ => ⟨.none, none, (.func ⟨(.ofString "values_roots"), (.ofString "values_roots"), (fP (top 16)), (.stmts (fB (top 16))), (fS (top 16)), 0, [], .none, .none, .none, .none, none, .none, .none, 0⟩), #[]⟩
noncomputable def o_378 : Params → Obj := fun _ => ⟨.none, none, (.fields #[]), #[]⟩
noncomputable def o_381 : Params → Obj := fun _ => ⟨.none, none, (.func ⟨(.ofString "_law_pool"), (.ofString "_law_pool"), (fP (top 18)), (.stmts (fB (top 18))), (fS (top 18)), 0, [], .none, .none, .none, .none, none, .none, .none, 0⟩), #[]⟩
noncomputable def o_385 : Params → Obj := fun _ => ⟨.none, none, (.fields #[]), #[]⟩
noncomputable def o_388 : Params → Obj := fun _ => ⟨.none, none, (.func ⟨(.ofString "_law_take"), (.ofString "_law_take"), (fP (top 19)), (.stmts (fB (top 19))), (fS (top 19)), 0, [], .none, .none, .none, .none, none, .none, .none, 0⟩), #[]⟩
noncomputable def o_392 : Params → Obj := fun _ => ⟨.none, none, (.fields #[]), #[]⟩
noncomputable def o_395 : Params → Obj := fun _ => ⟨.none, none, (.func ⟨(.ofString "_law_values"), (.ofString "_law_values"), (fP (top 20)), (.stmts (fB (top 20))), (fS (top 20)), 0, [], .none, .none, .none, .none, none, .none, .none, 0⟩), #[]⟩
noncomputable def o_399 : Params → Obj := fun _ => ⟨.none, none, (.fields #[]), #[]⟩
noncomputable def o_400 : Params → Obj := fun _ => ⟨.none, none, (.func ⟨(.ofString "_law_rows"), (.ofString "_law_rows"), (fP (top 21)), (.stmts (fB (top 21))), (fS (top 21)), 0, [], .none, .none, .none, .none, none, .none, .none, 0⟩), #[]⟩
noncomputable def o_404 : Params → Obj := fun _ => ⟨.none, none, (.fields #[]), #[]⟩
noncomputable def o_407 : Params → Obj := fun _ => ⟨.none, none, (.func ⟨(.ofString "_law_cell"), (.ofString "_law_cell"), (fP (top 22)), (.stmts (fB (top 22))), (fS (top 22)), 0, [], .none, .none, .none, .none, none, .none, .none, 0⟩), #[]⟩
noncomputable def o_411 : Params → Obj := fun _ => ⟨.none, none, (.fields #[]), #[]⟩
noncomputable def o_414 : Params → Obj := fun _ => ⟨.none, none, (.func ⟨(.ofString "_law_row"), (.ofString "_law_row"), (fP (top 23)), (.stmts (fB (top 23))), (fS (top 23)), 0, [], .none, .none, .none, .none, none, .none, .none, 0⟩), #[]⟩
noncomputable def o_418 : Params → Obj := fun _ => ⟨.none, none, (.fields #[]), #[]⟩
noncomputable def o_421 : Params → Obj := fun _ => ⟨.none, none, (.func ⟨(.ofString "_law_end"), (.ofString "_law_end"), (fP (top 24)), (.stmts (fB (top 24))), (fS (top 24)), 0, [], .none, .none, .none, .none, none, .none, .none, 0⟩), #[]⟩
noncomputable def o_425 : Params → Obj := fun _ => ⟨.none, none, (.fields #[]), #[]⟩
noncomputable def o_426 : Params → Obj := fun _ => ⟨.none, none, (.func ⟨(.ofString "_law_named"), (.ofString "_law_named"), (fP (top 25)), (.stmts (fB (top 25))), (fS (top 25)), 0, [], .none, .none, .none, .none, none, .none, .none, 0⟩), #[]⟩
noncomputable def o_430 : Params → Obj := fun _ => ⟨.none, none, (.fields #[]), #[]⟩
noncomputable def o_433 : Params → Obj := fun _ => ⟨.none, none, (.func ⟨(.ofString "_law_reached"), (.ofString "_law_reached"), (fP (top 26)), (.stmts (fB (top 26))), (fS (top 26)), 0, [], .none, .none, .none, .none, none, .none, .none, 0⟩), #[]⟩
noncomputable def o_437 : Params → Obj := fun _ => ⟨.none, none, (.fields #[]), #[]⟩
noncomputable def o_438 : Params → Obj := fun _ => ⟨.none, none, (.func ⟨(.ofString "_law_mended"), (.ofString "_law_mended"), (fP (top 27)), (.stmts (fB (top 27))), (fS (top 27)), 0, [], .none, .none, .none, .none, none, .none, .none, 0⟩), #[]⟩
noncomputable def o_442 : Params → Obj := fun _ => ⟨.none, none, (.fields #[]), #[]⟩
noncomputable def o_443 : Params → Obj := fun _ => ⟨.none, none, (.func ⟨(.ofString "law"), (.ofString "law"), (fP (top 28)), (.stmts (fB (top 28))), (fS (top 28)), 0, [], .none, .none, .none, .none, none, .none, .none, 0⟩), #[]⟩
noncomputable def h0 : Params → Heap := fun P => ⟨⟨boot_o_0 P :: boot_o_1 P :: boot_o_2 P :: boot_o_3 P :: boot_o_4 P :: boot_o_5 P :: boot_o_6 P :: boot_o_7 P :: boot_o_8 P :: boot_o_9 P :: boot_o_10 P :: o_43 P :: o_44 P :: o_45 P :: o_46 P :: []⟩, {}⟩
noncomputable def h1 : Params → Heap := fun P => ⟨⟨boot_o_0 P :: boot_o_1 P :: boot_o_2 P :: boot_o_3 P :: boot_o_4 P :: boot_o_5 P :: boot_o_6 P :: boot_o_7 P :: boot_o_8 P :: boot_o_9 P :: boot_o_10 P :: o_43 P :: o_44 P :: o_45 P :: o_46 P :: []⟩, {}⟩
noncomputable def h5 : Params → Heap := fun P => ⟨⟨boot_o_0 P :: boot_o_1 P :: o_49 P :: o_111 P :: boot_o_4 P :: boot_o_5 P :: boot_o_6 P :: boot_o_7 P :: boot_o_8 P :: boot_o_9 P :: boot_o_10 P :: o_43 P :: o_112 P :: o_45 P :: o_46 P :: o_52 P :: o_53 P :: o_54 P :: o_55 P :: o_56 P :: o_57 P :: o_58 P :: o_59 P :: o_60 P :: o_61 P :: o_62 P :: o_63 P :: o_64 P :: o_65 P :: o_66 P :: o_67 P :: o_68 P :: o_75 P :: o_70 P :: o_71 P :: o_72 P :: o_76 P :: o_77 P :: o_78 P :: o_79 P :: o_80 P :: o_81 P :: o_82 P :: o_83 P :: o_84 P :: o_85 P :: o_86 P :: o_87 P :: o_90 P :: o_91 P :: o_92 P :: o_93 P :: o_94 P :: o_95 P :: o_96 P :: o_97 P :: o_98 P :: o_99 P :: o_100 P :: o_101 P :: o_102 P :: o_103 P :: o_104 P :: o_105 P :: o_106 P :: o_107 P :: o_108 P :: o_109 P :: o_110 P :: o_113 P :: o_114 P :: o_115 P :: o_116 P :: o_117 P :: o_118 P :: o_119 P :: o_120 P :: o_121 P :: o_122 P :: o_123 P :: o_124 P :: o_125 P :: o_126 P :: o_127 P :: o_128 P :: o_129 P :: o_130 P :: o_131 P :: o_132 P :: o_133 P :: []⟩, {}⟩
noncomputable def h9 : Params → Heap := fun P => ⟨⟨boot_o_0 P :: boot_o_1 P :: o_49 P :: o_196 P :: boot_o_4 P :: boot_o_5 P :: boot_o_6 P :: boot_o_7 P :: boot_o_8 P :: boot_o_9 P :: boot_o_10 P :: o_43 P :: o_197 P :: o_45 P :: o_46 P :: o_52 P :: o_53 P :: o_54 P :: o_55 P :: o_56 P :: o_57 P :: o_58 P :: o_59 P :: o_60 P :: o_61 P :: o_62 P :: o_63 P :: o_64 P :: o_65 P :: o_66 P :: o_67 P :: o_68 P :: o_75 P :: o_70 P :: o_71 P :: o_72 P :: o_76 P :: o_77 P :: o_78 P :: o_79 P :: o_80 P :: o_81 P :: o_82 P :: o_83 P :: o_84 P :: o_85 P :: o_86 P :: o_87 P :: o_90 P :: o_91 P :: o_92 P :: o_93 P :: o_94 P :: o_95 P :: o_96 P :: o_97 P :: o_98 P :: o_99 P :: o_100 P :: o_101 P :: o_102 P :: o_103 P :: o_104 P :: o_105 P :: o_106 P :: o_107 P :: o_108 P :: o_109 P :: o_110 P :: o_113 P :: o_114 P :: o_115 P :: o_116 P :: o_117 P :: o_118 P :: o_119 P :: o_120 P :: o_121 P :: o_122 P :: o_123 P :: o_124 P :: o_125 P :: o_126 P :: o_127 P :: o_128 P :: o_129 P :: o_130 P :: o_131 P :: o_132 P :: o_133 P :: o_136 P :: o_137 P :: o_138 P :: o_139 P :: o_140 P :: o_141 P :: o_142 P :: o_143 P :: o_144 P :: o_145 P :: o_146 P :: o_147 P :: o_148 P :: o_149 P :: o_150 P :: o_151 P :: o_152 P :: o_153 P :: o_154 P :: o_155 P :: o_156 P :: o_159 P :: o_160 P :: o_161 P :: o_162 P :: o_163 P :: o_164 P :: o_165 P :: o_166 P :: o_167 P :: o_168 P :: o_169 P :: o_170 P :: o_171 P :: o_172 P :: o_175 P :: o_176 P :: o_177 P :: o_178 P :: o_179 P :: o_180 P :: o_181 P :: o_182 P :: o_183 P :: o_184 P :: o_185 P :: o_186 P :: o_187 P :: o_188 P :: o_189 P :: o_190 P :: o_191 P :: o_192 P :: o_193 P :: o_194 P :: o_195 P :: o_198 P :: o_199 P :: o_200 P :: o_201 P :: o_202 P :: o_203 P :: o_204 P :: o_205 P :: o_206 P :: o_207 P :: o_208 P :: o_209 P :: o_210 P :: o_211 P :: o_212 P :: o_213 P :: o_214 P :: o_215 P :: o_216 P :: o_217 P :: o_218 P :: []⟩, {}⟩
noncomputable def h11 : Params → Heap := fun P => ⟨⟨boot_o_0 P :: boot_o_1 P :: o_49 P :: o_242 P :: boot_o_4 P :: boot_o_5 P :: boot_o_6 P :: boot_o_7 P :: boot_o_8 P :: boot_o_9 P :: boot_o_10 P :: o_43 P :: o_243 P :: o_45 P :: o_46 P :: o_52 P :: o_53 P :: o_54 P :: o_55 P :: o_56 P :: o_57 P :: o_58 P :: o_59 P :: o_60 P :: o_61 P :: o_62 P :: o_63 P :: o_64 P :: o_65 P :: o_66 P :: o_67 P :: o_68 P :: o_75 P :: o_70 P :: o_71 P :: o_72 P :: o_76 P :: o_77 P :: o_78 P :: o_79 P :: o_80 P :: o_81 P :: o_82 P :: o_83 P :: o_84 P :: o_85 P :: o_86 P :: o_87 P :: o_90 P :: o_91 P :: o_92 P :: o_93 P :: o_94 P :: o_95 P :: o_96 P :: o_97 P :: o_98 P :: o_99 P :: o_100 P :: o_101 P :: o_102 P :: o_103 P :: o_104 P :: o_105 P :: o_106 P :: o_107 P :: o_108 P :: o_109 P :: o_110 P :: o_113 P :: o_114 P :: o_115 P :: o_116 P :: o_117 P :: o_118 P :: o_119 P :: o_120 P :: o_121 P :: o_122 P :: o_123 P :: o_124 P :: o_125 P :: o_126 P :: o_127 P :: o_128 P :: o_129 P :: o_130 P :: o_131 P :: o_132 P :: o_133 P :: o_136 P :: o_137 P :: o_138 P :: o_139 P :: o_140 P :: o_141 P :: o_142 P :: o_143 P :: o_144 P :: o_145 P :: o_146 P :: o_147 P :: o_148 P :: o_149 P :: o_150 P :: o_151 P :: o_152 P :: o_153 P :: o_154 P :: o_155 P :: o_156 P :: o_159 P :: o_160 P :: o_161 P :: o_162 P :: o_163 P :: o_164 P :: o_165 P :: o_166 P :: o_167 P :: o_168 P :: o_169 P :: o_170 P :: o_171 P :: o_172 P :: o_175 P :: o_176 P :: o_177 P :: o_178 P :: o_179 P :: o_180 P :: o_181 P :: o_182 P :: o_183 P :: o_184 P :: o_185 P :: o_186 P :: o_187 P :: o_188 P :: o_189 P :: o_190 P :: o_191 P :: o_192 P :: o_193 P :: o_194 P :: o_195 P :: o_198 P :: o_199 P :: o_200 P :: o_201 P :: o_202 P :: o_203 P :: o_204 P :: o_205 P :: o_206 P :: o_207 P :: o_208 P :: o_209 P :: o_210 P :: o_211 P :: o_212 P :: o_213 P :: o_214 P :: o_215 P :: o_216 P :: o_217 P :: o_218 P :: o_221 P :: o_222 P :: o_223 P :: o_224 P :: o_225 P :: o_226 P :: o_227 P :: o_228 P :: o_229 P :: o_230 P :: o_231 P :: o_232 P :: o_233 P :: o_234 P :: o_235 P :: o_236 P :: o_237 P :: o_238 P :: o_239 P :: o_240 P :: o_241 P :: o_244 P :: o_245 P :: o_246 P :: o_247 P :: o_248 P :: o_249 P :: o_250 P :: o_251 P :: o_252 P :: o_253 P :: o_254 P :: o_255 P :: o_256 P :: o_257 P :: o_258 P :: o_259 P :: o_260 P :: o_261 P :: o_262 P :: o_263 P :: o_264 P :: o_265 P :: o_266 P :: o_267 P :: o_268 P :: o_269 P :: o_270 P :: o_271 P :: o_272 P :: o_273 P :: o_274 P :: o_275 P :: o_276 P :: o_277 P :: o_278 P :: o_279 P :: o_280 P :: o_281 P :: o_282 P :: o_283 P :: o_284 P :: o_285 P :: o_286 P :: o_287 P :: o_288 P :: o_289 P :: o_290 P :: o_291 P :: o_292 P :: o_293 P :: o_294 P :: o_295 P :: o_296 P :: o_297 P :: o_298 P :: o_299 P :: []⟩, {}⟩
noncomputable def h13 : Params → Heap := fun P => ⟨⟨boot_o_0 P :: boot_o_1 P :: o_49 P :: o_363 P :: boot_o_4 P :: boot_o_5 P :: boot_o_6 P :: boot_o_7 P :: boot_o_8 P :: boot_o_9 P :: boot_o_10 P :: o_43 P :: o_364 P :: o_45 P :: o_46 P :: o_52 P :: o_53 P :: o_54 P :: o_55 P :: o_56 P :: o_57 P :: o_58 P :: o_59 P :: o_60 P :: o_61 P :: o_62 P :: o_63 P :: o_64 P :: o_65 P :: o_66 P :: o_67 P :: o_68 P :: o_75 P :: o_70 P :: o_71 P :: o_72 P :: o_76 P :: o_77 P :: o_78 P :: o_79 P :: o_80 P :: o_81 P :: o_82 P :: o_83 P :: o_84 P :: o_85 P :: o_86 P :: o_87 P :: o_90 P :: o_91 P :: o_92 P :: o_93 P :: o_94 P :: o_95 P :: o_96 P :: o_97 P :: o_98 P :: o_99 P :: o_100 P :: o_101 P :: o_102 P :: o_103 P :: o_104 P :: o_105 P :: o_106 P :: o_107 P :: o_108 P :: o_109 P :: o_110 P :: o_113 P :: o_114 P :: o_115 P :: o_116 P :: o_117 P :: o_118 P :: o_119 P :: o_120 P :: o_121 P :: o_122 P :: o_123 P :: o_124 P :: o_125 P :: o_126 P :: o_127 P :: o_128 P :: o_129 P :: o_130 P :: o_131 P :: o_132 P :: o_133 P :: o_136 P :: o_137 P :: o_138 P :: o_139 P :: o_140 P :: o_141 P :: o_142 P :: o_143 P :: o_144 P :: o_145 P :: o_146 P :: o_147 P :: o_148 P :: o_149 P :: o_150 P :: o_151 P :: o_152 P :: o_153 P :: o_154 P :: o_155 P :: o_156 P :: o_159 P :: o_160 P :: o_161 P :: o_162 P :: o_163 P :: o_164 P :: o_165 P :: o_166 P :: o_167 P :: o_168 P :: o_169 P :: o_170 P :: o_171 P :: o_172 P :: o_175 P :: o_176 P :: o_177 P :: o_178 P :: o_179 P :: o_180 P :: o_181 P :: o_182 P :: o_183 P :: o_184 P :: o_185 P :: o_186 P :: o_187 P :: o_188 P :: o_189 P :: o_190 P :: o_191 P :: o_192 P :: o_193 P :: o_194 P :: o_195 P :: o_198 P :: o_199 P :: o_200 P :: o_201 P :: o_202 P :: o_203 P :: o_204 P :: o_205 P :: o_206 P :: o_207 P :: o_208 P :: o_209 P :: o_210 P :: o_211 P :: o_212 P :: o_213 P :: o_214 P :: o_215 P :: o_216 P :: o_217 P :: o_218 P :: o_221 P :: o_222 P :: o_223 P :: o_224 P :: o_225 P :: o_226 P :: o_227 P :: o_228 P :: o_229 P :: o_230 P :: o_231 P :: o_232 P :: o_233 P :: o_234 P :: o_235 P :: o_236 P :: o_237 P :: o_238 P :: o_239 P :: o_240 P :: o_241 P :: o_244 P :: o_245 P :: o_246 P :: o_247 P :: o_248 P :: o_249 P :: o_250 P :: o_251 P :: o_252 P :: o_253 P :: o_254 P :: o_255 P :: o_256 P :: o_257 P :: o_258 P :: o_259 P :: o_260 P :: o_261 P :: o_262 P :: o_263 P :: o_264 P :: o_265 P :: o_266 P :: o_267 P :: o_268 P :: o_269 P :: o_270 P :: o_271 P :: o_272 P :: o_273 P :: o_274 P :: o_275 P :: o_276 P :: o_277 P :: o_278 P :: o_279 P :: o_280 P :: o_281 P :: o_282 P :: o_283 P :: o_284 P :: o_285 P :: o_286 P :: o_287 P :: o_288 P :: o_289 P :: o_290 P :: o_291 P :: o_292 P :: o_293 P :: o_294 P :: o_295 P :: o_296 P :: o_297 P :: o_298 P :: o_299 P :: o_302 P :: o_303 P :: o_304 P :: o_305 P :: o_306 P :: o_307 P :: o_308 P :: o_309 P :: o_310 P :: o_311 P :: o_312 P :: o_313 P :: o_314 P :: o_315 P :: o_316 P :: o_317 P :: o_318 P :: o_319 P :: o_320 P :: o_321 P :: o_322 P :: o_323 P :: o_324 P :: o_325 P :: o_326 P :: o_327 P :: o_328 P :: o_329 P :: o_330 P :: o_331 P :: o_332 P :: o_333 P :: o_334 P :: o_335 P :: o_336 P :: o_337 P :: o_338 P :: o_339 P :: o_340 P :: o_341 P :: o_342 P :: o_343 P :: o_344 P :: o_345 P :: o_346 P :: o_347 P :: o_348 P :: o_349 P :: o_350 P :: o_351 P :: o_352 P :: o_353 P :: o_354 P :: o_355 P :: o_356 P :: o_357 P :: o_358 P :: o_359 P :: o_360 P :: o_361 P :: o_362 P :: o_365 P :: o_366 P :: o_367 P :: o_368 P :: o_369 P :: o_370 P :: o_371 P :: o_372 P :: o_373 P :: o_374 P :: o_375 P :: o_376 P :: o_377 P :: o_378 P :: o_379 P :: o_380 P :: o_381 P :: o_382 P :: o_383 P :: o_384 P :: o_385 P :: o_386 P :: o_387 P :: o_388 P :: o_389 P :: o_390 P :: o_391 P :: o_392 P :: o_393 P :: o_394 P :: o_395 P :: o_396 P :: o_397 P :: o_398 P :: o_399 P :: o_400 P :: o_401 P :: o_402 P :: o_403 P :: o_404 P :: o_405 P :: o_406 P :: o_407 P :: o_408 P :: o_409 P :: o_410 P :: o_411 P :: o_412 P :: o_413 P :: o_414 P :: o_415 P :: o_416 P :: o_417 P :: o_418 P :: o_419 P :: o_420 P :: o_421 P :: o_422 P :: o_423 P :: o_424 P :: o_425 P :: o_426 P :: o_427 P :: o_428 P :: o_429 P :: o_430 P :: o_431 P :: o_432 P :: o_433 P :: o_434 P :: o_435 P :: o_436 P :: o_437 P :: o_438 P :: o_439 P :: o_440 P :: o_441 P :: o_442 P :: o_443 P :: o_444 P :: o_445 P :: []⟩, {}⟩
noncomputable def env : Env := { scope := pw.main.scope, locals := mainNs, globals := mainNs, cells := [], code := .ref 13, frame := some 14 }
noncomputable abbrev cE : Code := .body (behindTheImports pw) env
noncomputable def zp : Pos := ⟨0, 0, 0, 0⟩
noncomputable abbrev an : Option Value := some (.ref 6)
noncomputable abbrev g1 : List Stmt := ((behindTheImports pw).drop 0).take 6
noncomputable abbrev g2 : List Stmt := ((behindTheImports pw).drop 6).take 4
noncomputable abbrev g3 : List Stmt := ((behindTheImports pw).drop 10).take 4
noncomputable abbrev g4 : List Stmt := ((behindTheImports pw).drop 14).take 15
end LzT
namespace Lz
noncomputable def hd.heap_39 : Params → Frag := fun P =>
  (nat_lit 2, LzT.o_49 P) :: (nat_lit 3, LzT.o_363 P) :: (nat_lit 15, LzT.o_52 P) :: (nat_lit 22, LzT.o_59 P) :: (nat_lit 23, LzT.o_60 P) :: (nat_lit 25, LzT.o_62 P) :: (nat_lit 26, LzT.o_63 P) :: (nat_lit 28, LzT.o_65 P) ::
  (nat_lit 29, LzT.o_66 P) :: (nat_lit 30, LzT.o_67 P) :: (nat_lit 31, LzT.o_68 P) :: (nat_lit 32, LzT.o_75 P) :: (nat_lit 33, LzT.o_70 P) :: (nat_lit 36, LzT.o_76 P) :: (nat_lit 43, LzT.o_83 P) :: (nat_lit 44, LzT.o_84 P) ::
  (nat_lit 45, LzT.o_85 P) :: (nat_lit 55, LzT.o_97 P) :: (nat_lit 57, LzT.o_99 P) :: (nat_lit 58, LzT.o_100 P) :: (nat_lit 60, LzT.o_102 P) :: (nat_lit 61, LzT.o_103 P) :: (nat_lit 62, LzT.o_104 P) :: (nat_lit 63, LzT.o_105 P) ::
  (nat_lit 64, LzT.o_106 P) :: (nat_lit 65, LzT.o_107 P) :: (nat_lit 66, LzT.o_108 P) :: (nat_lit 76, LzT.o_120 P) :: (nat_lit 78, LzT.o_122 P) :: (nat_lit 79, LzT.o_123 P) :: (nat_lit 81, LzT.o_125 P) :: (nat_lit 82, LzT.o_126 P) ::
  (nat_lit 83, LzT.o_127 P) :: (nat_lit 84, LzT.o_128 P) :: (nat_lit 85, LzT.o_129 P) :: (nat_lit 86, LzT.o_130 P) :: (nat_lit 87, LzT.o_131 P) :: (nat_lit 97, LzT.o_143 P) :: (nat_lit 99, LzT.o_145 P) :: (nat_lit 100, LzT.o_146 P) ::
  (nat_lit 102, LzT.o_148 P) :: (nat_lit 103, LzT.o_149 P) :: (nat_lit 104, LzT.o_150 P) :: (nat_lit 105, LzT.o_151 P) :: (nat_lit 106, LzT.o_152 P) :: (nat_lit 107, LzT.o_153 P) :: (nat_lit 108, LzT.o_154 P) :: (nat_lit 118, LzT.o_166 P) ::
  (nat_lit 119, LzT.o_167 P) :: (nat_lit 120, LzT.o_168 P) :: (nat_lit 121, LzT.o_169 P) :: (nat_lit 122, LzT.o_170 P) :: (nat_lit 132, LzT.o_182 P) :: (nat_lit 134, LzT.o_184 P) :: (nat_lit 135, LzT.o_185 P) :: (nat_lit 137, LzT.o_187 P) ::
  (nat_lit 138, LzT.o_188 P) :: (nat_lit 139, LzT.o_189 P) :: (nat_lit 140, LzT.o_190 P) :: (nat_lit 141, LzT.o_191 P) :: (nat_lit 142, LzT.o_192 P) :: (nat_lit 143, LzT.o_193 P) :: (nat_lit 153, LzT.o_205 P) :: (nat_lit 155, LzT.o_207 P) ::
  (nat_lit 156, LzT.o_208 P) :: (nat_lit 158, LzT.o_210 P) :: (nat_lit 159, LzT.o_211 P) :: (nat_lit 160, LzT.o_212 P) :: (nat_lit 161, LzT.o_213 P) :: (nat_lit 162, LzT.o_214 P) :: (nat_lit 163, LzT.o_215 P) :: (nat_lit 164, LzT.o_216 P) ::
  (nat_lit 174, LzT.o_228 P) :: (nat_lit 176, LzT.o_230 P) :: (nat_lit 177, LzT.o_231 P) :: (nat_lit 179, LzT.o_233 P) :: (nat_lit 180, LzT.o_234 P) :: (nat_lit 181, LzT.o_235 P) :: (nat_lit 182, LzT.o_236 P) :: (nat_lit 183, LzT.o_237 P) ::
  (nat_lit 184, LzT.o_238 P) :: (nat_lit 185, LzT.o_239 P) :: (nat_lit 195, LzT.o_251 P) :: (nat_lit 197, LzT.o_253 P) :: (nat_lit 198, LzT.o_254 P) :: (nat_lit 200, LzT.o_256 P) :: (nat_lit 201, LzT.o_257 P) :: (nat_lit 202, LzT.o_258 P) ::
  (nat_lit 204, LzT.o_260 P) :: (nat_lit 205, LzT.o_261 P) :: (nat_lit 207, LzT.o_263 P) :: (nat_lit 208, LzT.o_264 P) :: (nat_lit 209, LzT.o_265 P) :: (nat_lit 211, LzT.o_267 P) :: (nat_lit 212, LzT.o_268 P) :: (nat_lit 214, LzT.o_270 P) ::
  (nat_lit 215, LzT.o_271 P) :: (nat_lit 216, LzT.o_272 P) :: (nat_lit 218, LzT.o_274 P) :: (nat_lit 219, LzT.o_275 P) :: (nat_lit 221, LzT.o_277 P) :: (nat_lit 222, LzT.o_278 P) :: (nat_lit 223, LzT.o_279 P) :: (nat_lit 225, LzT.o_281 P) ::
  (nat_lit 226, LzT.o_282 P) :: (nat_lit 228, LzT.o_284 P) :: (nat_lit 229, LzT.o_285 P) :: (nat_lit 230, LzT.o_286 P) :: (nat_lit 231, LzT.o_287 P) :: (nat_lit 232, LzT.o_288 P) :: (nat_lit 233, LzT.o_289 P) :: (nat_lit 234, LzT.o_290 P) ::
  (nat_lit 237, LzT.o_293 P) :: (nat_lit 239, LzT.o_295 P) :: (nat_lit 240, LzT.o_296 P) :: (nat_lit 242, LzT.o_298 P) :: (nat_lit 243, LzT.o_299 P) :: (nat_lit 251, LzT.o_309 P) :: (nat_lit 253, LzT.o_311 P) :: (nat_lit 254, LzT.o_312 P) ::
  (nat_lit 256, LzT.o_314 P) :: (nat_lit 257, LzT.o_315 P) :: (nat_lit 258, LzT.o_316 P) :: (nat_lit 260, LzT.o_318 P) :: (nat_lit 261, LzT.o_319 P) :: (nat_lit 263, LzT.o_321 P) :: (nat_lit 264, LzT.o_322 P) :: (nat_lit 265, LzT.o_323 P) ::
  (nat_lit 267, LzT.o_325 P) :: (nat_lit 268, LzT.o_326 P) :: (nat_lit 270, LzT.o_328 P) :: (nat_lit 271, LzT.o_329 P) :: (nat_lit 272, LzT.o_330 P) :: (nat_lit 274, LzT.o_332 P) :: (nat_lit 275, LzT.o_333 P) :: (nat_lit 277, LzT.o_335 P) ::
  (nat_lit 278, LzT.o_336 P) :: (nat_lit 279, LzT.o_337 P) :: (nat_lit 282, LzT.o_340 P) :: (nat_lit 283, LzT.o_341 P) :: (nat_lit 284, LzT.o_342 P) :: (nat_lit 286, LzT.o_344 P) :: (nat_lit 287, LzT.o_345 P) :: (nat_lit 289, LzT.o_347 P) ::
  (nat_lit 290, LzT.o_348 P) :: (nat_lit 291, LzT.o_349 P) :: (nat_lit 293, LzT.o_351 P) :: (nat_lit 294, LzT.o_352 P) :: (nat_lit 296, LzT.o_354 P) :: (nat_lit 297, LzT.o_355 P) :: (nat_lit 298, LzT.o_356 P) :: (nat_lit 299, LzT.o_357 P) ::
  (nat_lit 300, LzT.o_358 P) :: (nat_lit 301, LzT.o_359 P) :: (nat_lit 302, LzT.o_360 P) :: (nat_lit 305, LzT.o_365 P) :: (nat_lit 307, LzT.o_367 P) :: (nat_lit 308, LzT.o_368 P) :: (nat_lit 310, LzT.o_370 P) :: (nat_lit 311, LzT.o_371 P) ::
  (nat_lit 312, LzT.o_372 P) :: (nat_lit 315, LzT.o_375 P) :: (nat_lit 316, LzT.o_376 P) :: (nat_lit 317, LzT.o_377 P) :: (nat_lit 319, LzT.o_379 P) :: (nat_lit 320, LzT.o_380 P) :: (nat_lit 322, LzT.o_382 P) :: (nat_lit 323, LzT.o_383 P) ::
  (nat_lit 324, LzT.o_384 P) :: (nat_lit 326, LzT.o_386 P) :: (nat_lit 327, LzT.o_387 P) :: (nat_lit 329, LzT.o_389 P) :: (nat_lit 330, LzT.o_390 P) :: (nat_lit 331, LzT.o_391 P) :: (nat_lit 333, LzT.o_393 P) :: (nat_lit 334, LzT.o_394 P) ::
  (nat_lit 336, LzT.o_396 P) :: (nat_lit 337, LzT.o_397 P) :: (nat_lit 338, LzT.o_398 P) :: (nat_lit 341, LzT.o_401 P) :: (nat_lit 342, LzT.o_402 P) :: (nat_lit 343, LzT.o_403 P) :: (nat_lit 345, LzT.o_405 P) :: (nat_lit 346, LzT.o_406 P) ::
  (nat_lit 348, LzT.o_408 P) :: (nat_lit 349, LzT.o_409 P) :: (nat_lit 350, LzT.o_410 P) :: (nat_lit 352, LzT.o_412 P) :: (nat_lit 353, LzT.o_413 P) :: (nat_lit 355, LzT.o_415 P) :: (nat_lit 356, LzT.o_416 P) :: (nat_lit 357, LzT.o_417 P) ::
  (nat_lit 359, LzT.o_419 P) :: (nat_lit 360, LzT.o_420 P) :: (nat_lit 362, LzT.o_422 P) :: (nat_lit 363, LzT.o_423 P) :: (nat_lit 364, LzT.o_424 P) :: (nat_lit 367, LzT.o_427 P) :: (nat_lit 368, LzT.o_428 P) :: (nat_lit 369, LzT.o_429 P) ::
  (nat_lit 371, LzT.o_431 P) :: (nat_lit 372, LzT.o_432 P) :: (nat_lit 374, LzT.o_434 P) :: (nat_lit 375, LzT.o_435 P) :: (nat_lit 376, LzT.o_436 P) :: (nat_lit 379, LzT.o_439 P) :: (nat_lit 380, LzT.o_440 P) :: (nat_lit 381, LzT.o_441 P) ::
  (nat_lit 384, LzT.o_444 P) :: (nat_lit 385, LzT.o_445 P) :: []
end Lz
namespace LzT
noncomputable def view : Program := { pw with main := { pw.main with body := [top 1, top 2, top 4, top 5, top 6, top 7, top 8, top 9, top 10, top 11, top 13, top 14, top 15, top 16, top 18, top 19, top 20, top 21, top 22, top 23, top 24, top 25, top 26, top 27, top 28] } }
noncomputable abbrev lse : List Str := [Str.ofString "LazyError"]
noncomputable abbrev addrs : List Addr := [2, 3, 15, 22, 23, 25, 26, 28, 29, 30, 31, 32, 33, 36, 43, 44, 45, 55, 57, 58, 60, 61, 62, 63, 64, 65, 66, 76, 78, 79, 81, 82, 83, 84, 85, 86, 87, 97, 99, 100, 102, 103, 104, 105, 106, 107, 108, 118, 119, 120, 121, 122, 132, 134, 135, 137, 138, 139, 140, 141, 142, 143, 153, 155, 156, 158, 159, 160, 161, 162, 163, 164, 174, 176, 177, 179, 180, 181, 182, 183, 184, 185, 195, 197, 198, 200, 201, 202, 204, 205, 207, 208, 209, 211, 212, 214, 215, 216, 218, 219, 221, 222, 223, 225, 226, 228, 229, 230, 231, 232, 233, 234, 237, 239, 240, 242, 243, 251, 253, 254, 256, 257, 258, 260, 261, 263, 264, 265, 267, 268, 270, 271, 272, 274, 275, 277, 278, 279, 282, 283, 284, 286, 287, 289, 290, 291, 293, 294, 296, 297, 298, 299, 300, 301, 302, 305, 307, 308, 310, 311, 312, 315, 316, 317, 319, 320, 322, 323, 324, 326, 327, 329, 330, 331, 333, 334, 336, 337, 338, 341, 342, 343, 345, 346, 348, 349, 350, 352, 353, 355, 356, 357, 359, 360, 362, 363, 364, 367, 368, 369, 371, 372, 374, 375, 376, 379, 380, 381, 384, 385]
set_option maxRecDepth 100000
set_option maxHeartbeats 0
theorem cut : behindTheImports pw = (g1 ++ (g2 ++ (g3 ++ (g4 ++ [])))) := by kernel_rfl
theorem sized : ∀ w : World, ((boot_heap w.params).isNs mainGlobals && (Array.mk ([] : List GenState)).size == 0, (boot_heap w.params).objs.size, (boot_heap w.params).nsMap mainGlobals "__annotations__") = (true, 11, an) := fun w => by kernel_rfl
theorem opens : ∀ w : World, (fencedOpening treeTable pw w 6512).map (fun s => (s.heap, s.gens, s.drawn, s.toks)) = some (boot_heap w.params, Array.mk [], boot_drawn, boot_toks) := boot_open (by kernel_rfl) (by rfl) (fun s => by kernel_rfl)
theorem pre : ∀ w : World, (fun os => topGo treeTable pw w 11 an 12 ⟨boot_heap w.params, Array.mk [], boot_drawn, boot_toks, os⟩ (topStub pw)) = fun os => some (⟨h0 w.params, Array.mk [], {}, 187, os⟩, ⟨denote treeTable cE, cE, zp, [topFrame zp]⟩) := fun w => by kernel_rfl
theorem block : ∀ w : World, (fun os => segRun treeTable pw w 11 an 1 1 ⟨h0 w.params, Array.mk [], {}, 187, os⟩ (blockOf (behindTheImports pw) env cE zp [topFrame zp])) = fun os => some (.next, ⟨h1 w.params, Array.mk [], {}, 187, os⟩, cE, zp) := fun w => by kernel_rfl
theorem seg1 : ∀ w : World, (fun os => segRun treeTable pw w 11 an 1 914 ⟨h1 w.params, Array.mk [], {}, 187, os⟩ (piecesOf g1 env cE zp [topFrame zp])) = fun os => some (.next, ⟨h5 w.params, Array.mk [], {}, 300, os⟩, cE, ⟨16, 0, 20, 28⟩) := fun w => by kernel_rfl
theorem seg2 : ∀ w : World, (fun os => segRun treeTable pw w 11 an 1 862 ⟨h5 w.params, Array.mk [], {}, 300, os⟩ (piecesOf g2 env cE ⟨16, 0, 20, 28⟩ [topFrame zp])) = fun os => some (.next, ⟨h9 w.params, Array.mk [], {}, 409, os⟩, cE, ⟨32, 0, 35, 26⟩) := fun w => by kernel_rfl
theorem seg3 : ∀ w : World, (fun os => segRun treeTable pw w 11 an 1 616 ⟨h9 w.params, Array.mk [], {}, 409, os⟩ (piecesOf g3 env cE ⟨32, 0, 35, 26⟩ [topFrame zp])) = fun os => some (.next, ⟨h11 w.params, Array.mk [], {}, 512, os⟩, cE, ⟨64, 0, 67, 16⟩) := fun w => by kernel_rfl
theorem seg4 : ∀ w : World, (fun os => segRun treeTable pw w 11 an 1 813 ⟨h11 w.params, Array.mk [], {}, 512, os⟩ (piecesOf g4 env cE ⟨64, 0, 67, 16⟩ [topFrame zp])) = fun os => some (.next, ⟨h13 w.params, Array.mk [], {}, 705, os⟩, cE, ⟨219, 0, 245, 71⟩) := fun w => by kernel_rfl
theorem fin : ∀ w : World, (fun os => topRun treeTable pw w 11 an 2 ⟨h13 w.params, Array.mk [], {}, 705, os⟩ ⟨doneF .next, cE, ⟨219, 0, 245, 71⟩, [topFrame zp]⟩) = fun os => some ⟨h13 w.params, Array.mk [], {}, 705, os⟩ := fun w => by kernel_rfl
theorem run (w : World) (os : OsState) : topRun treeTable pw w 11 an (12 + (1 + (914 + (862 + (616 + (813 + 2)))))) ⟨boot_heap w.params, Array.mk [], boot_drawn, boot_toks, os⟩ (topStub pw) = some ⟨h13 w.params, Array.mk [], {}, 705, os⟩ :=
  have r : topRun treeTable pw w 11 an (914 + (862 + (616 + (813 + 2)))) ⟨h1 w.params, Array.mk [], {}, 187, os⟩ (restOf (g1 ++ (g2 ++ (g3 ++ (g4 ++ [])))) env cE zp [topFrame zp]) = some ⟨h13 w.params, Array.mk [], {}, 705, os⟩ := piece_app (congrFun (seg1 w) os) (piece_app (congrFun (seg2 w) os) (piece_app (congrFun (seg3 w) os) (piece_app (congrFun (seg4 w) os) (piece_nil (congrFun (fin w) os)))))
  go_top (congrFun (pre w) os) (piece_block (congrFun (block w) os) ((congrArg (fun l => topRun treeTable pw w 11 an (914 + (862 + (616 + (813 + 2)))) ⟨h1 w.params, Array.mk [], {}, 187, os⟩ (restOf l env cE zp [topFrame zp]) = some ⟨h13 w.params, Array.mk [], {}, 705, os⟩) cut).mpr r))
end LzT
section
namespace LzT
noncomputable abbrev rw0 : RowW := PySem.Challenge.rw_np0229_01.row.toRowW
theorem kAddrs : ∀ P, addrs = (Lz.hd.heap_39 P).map (·.1) := fun _ => by kernel_rfl
noncomputable abbrev HK : Hook := kHook Lz.hd.heap_39 addrs kAddrs
noncomputable abbrev seen (s : Shared) : Bool := xlAt view [] s && recOk (RowW.records rw0) s
theorem look1 (w : World) (os : OsState) : (staticsOk (importedModules pw.main.body) (boot_heap w.params) (h13 w.params) && namesBound pw (h13 w.params) && gensDone ⟨h13 w.params, Array.mk [], {}, 705, os⟩ && laidKept (boot_heap w.params) (h13 w.params)) = true := by
  refine look_both (look_both (look_both ?_ ?_) ?_) ?_
  all_goals (as_aux_lemma => kernel_rfl)
theorem look2 (w : World) (os : OsState) : openSeen view lse (importedModules pw.main.body) seen true ⟨h13 w.params, Array.mk [], {}, 705, os⟩ = openGood view lse := by
  delta openSeen openGood
  refine looks_pair ?_ (looks_pair ?_ (looks_pair ?_ (looks_pair ?_ (looks_pair ?_ (looks_pair ?_ (looks_pair ?_ (looks_pair ?_ ?_)))))))
  case refine_3 => (repeat' refine look_both ?_ ?_) <;> (as_aux_lemma => kernel_rfl)
  all_goals (as_aux_lemma => kernel_rfl)
theorem look3 (w : World) (os : OsState) : Hook.obs HK ⟨h13 w.params, Array.mk [], {}, 705, os⟩ = Hook.val HK w := by kernel_rfl
theorem left : LeftO pw view lse seen (Hook.obs HK) (Hook.val HK) 6512 true :=
  LeftO.of_pieces opens sized run (by rfl) fun w => funext fun os => looks_pair (look1 w os) (looks_pair (look2 w os) (look3 w os))
theorem said : PySem.Challenge.rw_np0229_01.wellSaid = true := by kernel_rfl
theorem free : (chainsOk view && opensWell pw && (frees rw0 && rw0.within.isEmpty)) = true := by decide +kernel
theorem bare : pw.bare := ⟨rfl, rfl, rfl, rfl, rfl, by decide +kernel⟩
end LzT
end
set_option maxRecDepth 100000
set_option maxHeartbeats 8000000
namespace Lz
section
-- part LzCore
abbrev Led := List (Addr × Obj)
abbrev Loc := PySem.Str → Option Value
abbrev prg : PySem.Program := PySem.Challenge.rw_np0229_01.row.prog
noncomputable abbrev KK (w : World) : Frag := hd.heap_39 w.params

theorem sub_const {c : Const} {k : Nat} {p : Pos} {o i : Value} : subscripted (.Constant c k p) false o i = operate [o, i] (getItem o i) := rfl
theorem sub_name {x : PySem.Str} {p : Pos} {o i : Value} : subscripted (.Name x p) false o i = operate [o, i] (getItem o i) := rfl
theorem sub_sub {v s : Expr} {p : Pos} {o i : Value} : subscripted (.Subscript v s p) false o i = operate [o, i] (getItem o i) := rfl
theorem sub_attr {v : Expr} {x : PySem.Str} {p : Pos} {o i : Value} : subscripted (.Attribute v x p) false o i = operate [o, i] (getItem o i) := rfl
theorem sub_call {f : Expr} {a : List Expr} {k : List Keyword} {p : Pos} {o i : Value} : subscripted (.Call f a k p) false o i = operate [o, i] (getItem o i) := rfl
structure Cx where
  w : World
  A : Around
  h₀ : Heap
  L : Addr
  env : Env
  n : Nat

structure Good (c : Cx) : Prop where
  top : ∃ (p : PySem.Program) (loose : List PySem.Str) (mean : ExcName → Option Value) (mg mb : PySem.Str → Option Value), Top p loose mean mg mb c.h₀
  kin : (KK c.w).In c.h₀
  below : ∃ A₀ base outer, Below A₀ base outer c.h₀ ∧ c.A.frames = some (c.env :: outer)
  frame : c.env.frame = some c.L
  kind : c.env.scope.kind = .function
  handled : c.A.handled = none
  room : c.A.depth + 4 * c.n + 10 ≤ recursionLimit
  units : c.A.units + 20 * c.n + 200 ≤ cLine

def Sep (M Φ : Led) : Prop := (M.map (·.1)).Nodup ∧ ∀ p ∈ Φ, ∀ q ∈ M, p.1 ≠ q.1

structure Sat (c : Cx) (m : Loc) (M Φ : Led) (s : Shared) : Prop where
  F : Fr c.h₀ c.L s.heap m
  N : News c.h₀ c.L s.heap (M ++ Φ)
  S : Sep M Φ

def Post {α : Type} (c : Cx) (Φ : Led) (s : Shared) (Q : α → Loc → Led → Led → Prop) (v : α) (s' : Shared) : Prop :=
  ∃ m' M' Φ' h' tk', s' = { s with heap := h', toks := tk' } ∧ Sat c m' M' Φ' s' ∧ (∀ p ∈ Φ, p ∈ Φ') ∧ Q v m' M' Φ'

/-- the judgement: from any state that the ledgers describe, the tree ends in a state that Q describes -/
@[irreducible] def EW {α : Type} (c : Cx) (t : Sem α) (m : Loc) (M Φ : Led) (Q : α → Loc → Led → Led → Prop) : Prop :=
  Good c → ∀ s, Sat c m M Φ s → wpAny (model prg c.w) c.A t (Post c Φ s Q) (fun _ _ => False) s

section
variable {α β : Type} {c : Cx} {t : Sem α} {m : Loc} {M Φ : Led}
theorem EW.mk {Q : α → Loc → Led → Led → Prop} (h : Good c → ∀ s, Sat c m M Φ s → wpAny (model prg c.w) c.A t (Post c Φ s Q) (fun _ _ => False) s) : EW c t m M Φ Q := by unfold EW; exact h
theorem EW.run {Q : α → Loc → Led → Led → Prop} (h : EW c t m M Φ Q) (G : Good c) (s : Shared) (S : Sat c m M Φ s) : wpAny (model prg c.w) c.A t (Post c Φ s Q) (fun _ _ => False) s := by unfold EW at h; exact h G s S

theorem Post.trans {Φ₁ : Led} {s : Shared} {Q : α → Loc → Led → Led → Prop} {v : α} {s' : Shared} {h₁ : Heap} {t₁ : Nat} (sub : ∀ p ∈ Φ, p ∈ Φ₁)
    (h : Post c Φ₁ { s with heap := h₁, toks := t₁ } Q v s') : Post c Φ s Q v s' := by
  obtain ⟨m', M', Φ', h', tk', rfl, S', sub', q⟩ := h
  exact ⟨m', M', Φ', h', tk', rfl, S', fun p hp => sub' p (sub p hp), q⟩

theorem Post.here {s : Shared} {Q : α → Loc → Led → Led → Prop} {v : α} {m' : Loc} {M' Φ' : Led} {h' : Heap} {tk' : Nat} (S : Sat c m' M' Φ' { s with heap := h', toks := tk' })
    (sub : ∀ p ∈ Φ, p ∈ Φ') (q : Q v m' M' Φ') : Post c Φ s Q v { s with heap := h', toks := tk' } := ⟨m', M', Φ', h', tk', rfl, S, sub, q⟩

/-- what follows a judgement is a wpAny -/
theorem Post.wp {f : α → Sem β} {s : Shared} {Q : β → Loc → Led → Led → Prop} (G : Good c) {v : α} {s' : Shared}
    (h : Post c Φ s (fun v m' M' Φ' => EW c (f v) m' M' Φ' Q) v s') : wpAny (model prg c.w) c.A (f v) (Post c Φ s Q) (fun _ _ => False) s' := by
  obtain ⟨m', M', Φ', h', tk', rfl, S', sub', q⟩ := h
  exact wpAny_mono (q.run G _ S') (fun _ _ x => x.trans sub') fun _ _ x => x

theorem Post.use {s : Shared} {Q : α → Loc → Led → Led → Prop} {v : α} {s' : Shared} {R : Prop} (h : Post c Φ s Q v s')
    (k : ∀ m' M' Φ' h' tk', s' = { s with heap := h', toks := tk' } → Sat c m' M' Φ' s' → (∀ p ∈ Φ, p ∈ Φ') → Q v m' M' Φ' → R) : R := by
  obtain ⟨m', M', Φ', h', tk', e, S', sub', q⟩ := h
  exact k _ _ _ _ _ e S' sub' q

theorem EW.thenD {f : α → Sem β} {Q : α → β → Loc → Led → Led → Prop} (h : EW c t m M Φ (fun v m' M' Φ' => EW c (f v) m' M' Φ' (Q v))) (G : Good c) {s : Shared} (S : Sat c m M Φ s) :
    wpAny (model prg c.w) c.A t (fun v s' => wpAny (model prg c.w) c.A (f v) (Post c Φ s (Q v)) (fun _ _ => False) s') (fun _ _ => False) s :=
  wpAny_mono (h.run G s S) (fun v _ x => Post.wp (f := fun _ => f v) (v := v) G x) fun _ _ x => x
theorem EW.then {f : α → Sem β} {Q : β → Loc → Led → Led → Prop} (h : EW c t m M Φ (fun v m' M' Φ' => EW c (f v) m' M' Φ' Q)) (G : Good c) {s : Shared} (S : Sat c m M Φ s) :
    wpAny (model prg c.w) c.A t (fun v s' => wpAny (model prg c.w) c.A (f v) (Post c Φ s Q) (fun _ _ => False) s') (fun _ _ => False) s :=
  EW.thenD h G S

theorem EW.then2 {γ : Type} {f : α → Sem β} {g : α → β → Sem γ} {Q : γ → Loc → Led → Led → Prop}
    (h : EW c t m M Φ (fun v m' M' Φ' => EW c (f v) m' M' Φ' (fun u m'' M'' Φ'' => EW c (g v u) m'' M'' Φ'' Q))) (G : Good c) {s : Shared} (S : Sat c m M Φ s) :
    wpAny (model prg c.w) c.A t (fun v s' => wpAny (model prg c.w) c.A (f v) (fun u s'' => wpAny (model prg c.w) c.A (g v u) (Post c Φ s Q) (fun _ _ => False) s'') (fun _ _ => False) s') (fun _ _ => False) s :=
  wpAny_mono (EW.thenD (Q := fun v u m'' M'' Φ'' => EW c (g v u) m'' M'' Φ'' Q) h G S) (fun v _ x => wpAny_mono x (fun u _ y => Post.wp (f := fun _ => g v u) (v := u) G y) fun _ _ y => y) fun _ _ x => x

theorem EW.then3 {γ δ : Type} {f : α → Sem β} {g : α → β → Sem γ} {k : α → β → γ → Sem δ} {Q : δ → Loc → Led → Led → Prop}
    (h : EW c t m M Φ (fun v m' M' Φ' => EW c (f v) m' M' Φ' (fun u m'' M'' Φ'' => EW c (g v u) m'' M'' Φ'' (fun x m3 M3 Φ3 => EW c (k v u x) m3 M3 Φ3 Q)))) (G : Good c) {s : Shared} (S : Sat c m M Φ s) :
    wpAny (model prg c.w) c.A t (fun v s' => wpAny (model prg c.w) c.A (f v) (fun u s'' => wpAny (model prg c.w) c.A (g v u) (fun x s3 => wpAny (model prg c.w) c.A (k v u x) (Post c Φ s Q) (fun _ _ => False) s3) (fun _ _ => False) s'') (fun _ _ => False) s') (fun _ _ => False) s :=
  wpAny_mono (EW.thenD (Q := fun v u m'' M'' Φ'' => EW c (g v u) m'' M'' Φ'' (fun x m3 M3 Φ3 => EW c (k v u x) m3 M3 Φ3 Q)) h G S) (fun v _ x => wpAny_mono x (fun u _ y => wpAny_mono (Post.wp (f := fun _ => g v u) (v := u) G y) (fun x _ z => Post.wp (f := fun _ => k v u x) (v := x) G z) fun _ _ z => z) fun _ _ y => y) fun _ _ x => x

theorem EW.bind {f : α → Sem β} {Q : β → Loc → Led → Led → Prop} (h : EW c t m M Φ (fun v m' M' Φ' => EW c (f v) m' M' Φ' Q)) : EW c (t >>= f) m M Φ Q :=
  EW.mk fun G _ S => wpAny_bind (h.then G S)

theorem EW.mono {Q Q' : α → Loc → Led → Led → Prop} (h : EW c t m M Φ Q) (k : ∀ v m' M' Φ', (∀ p ∈ Φ, p ∈ Φ') → Q v m' M' Φ' → Q' v m' M' Φ') : EW c t m M Φ Q' :=
  EW.mk fun G s S => wpAny_mono (h.run G s S) (fun _ _ ⟨m', M', Φ', h', tk', e, S', sub', q⟩ => ⟨m', M', Φ', h', tk', e, S', sub', k _ _ _ _ sub' q⟩) fun _ _ x => x

theorem EW.pure {v : α} {Q : α → Loc → Led → Led → Prop} (h : Q v m M Φ) : EW c (Pure.pure v) m M Φ Q :=
  EW.mk fun _ s S => wpAny_pure ⟨m, M, Φ, s.heap, s.toks, rfl, S, fun _ h => h, h⟩

theorem EW.absurd {Q : α → Loc → Led → Led → Prop} (h : False) : EW c t m M Φ Q := h.elim

/-- no change -/
theorem Sat.toks {s : Shared} {t : Nat} (S : Sat c m M Φ s) : Sat c m M Φ { s with toks := t } := ⟨S.F, S.N, S.S⟩
theorem Post.same {s : Shared} {Q : α → Loc → Led → Led → Prop} {v : α} (S : Sat c m M Φ s) (q : Q v m M Φ) : Post c Φ s Q v s := ⟨m, M, Φ, s.heap, s.toks, rfl, S, fun _ h => h, q⟩
theorem Post.tok {s : Shared} {Q : α → Loc → Led → Led → Prop} {v : α} {t : Nat} (S : Sat c m M Φ s) (q : Q v m M Φ) : Post c Φ s Q v { s with toks := t } := ⟨m, M, Φ, s.heap, t, rfl, S.toks, fun _ h => h, q⟩
theorem Sat.kin {s : Shared} (S : Sat c m M Φ s) (G : Good c) : (KK c.w).In s.heap := G.kin.keeps S.F.keep
end

section
variable {α : Type} {c : Cx} {m : Loc} {M Φ : Led} {env : Env}

theorem execs_nil {Q : Flow → Loc → Led → Led → Prop} (h : Q .next m M Φ) : EW c (execs [] env) m M Φ Q := EW.pure h
theorem execs_cons {st : Stmt} {rest : List Stmt} {Q : Flow → Loc → Led → Led → Prop}
    (h : EW c (exec st env) m M Φ (fun f m' M' Φ' => match f with | .next => EW c (execs rest env) m' M' Φ' Q | f => Q f m' M' Φ')) : EW c (execs (st :: rest) env) m M Φ Q := by
  refine EW.mk fun G s S => ?_
  refine wpAny_execs_cons (wpAny_mono (h.run G s S) (fun f s' x => ?_) fun _ _ x => x)
  cases f with
  | next => exact Post.wp (f := fun _ => execs rest env) (v := Flow.next) G x
  | brk => exact x
  | cont => exact x
  | ret v => exact x

theorem ite_of {b : Bool} {t u : Sem α} {s : Shared} {Q : α → Loc → Led → Led → Prop} (G : Good c)
    (x : Post c Φ s (fun b m' M' Φ' => if b = true then EW c t m' M' Φ' Q else EW c u m' M' Φ' Q) b s') :
    if b = true then wpAny (model prg c.w) c.A t (Post c Φ s Q) (fun _ _ => False) s' else wpAny (model prg c.w) c.A u (Post c Φ s Q) (fun _ _ => False) s' := by
  obtain ⟨m', M', Φ', h', tk', rfl, S', sub', q⟩ := x
  cases b with
  | true => exact wpAny_mono (q.run G _ S') (fun _ _ x => x.trans sub') fun _ _ x => x
  | false => exact wpAny_mono (q.run G _ S') (fun _ _ x => x.trans sub') fun _ _ x => x

theorem If_ {test : Expr} {body orelse : List Stmt} {pos : Pos} {Q : Flow → Loc → Led → Led → Prop}
    (h : EW c (isTrue test env (eval test env)) m M Φ (fun b m' M' Φ' => if b = true then EW c (execs body env) m' M' Φ' Q else EW c (execs orelse env) m' M' Φ' Q)) :
    EW c (exec (.If test body orelse pos) env) m M Φ Q :=
  EW.mk fun G s S => wpAny_If (wpAny_mono (h.run G s S) (fun _ _ x => ite_of G x) fun _ _ x => x)

theorem IfExp_ {test body orelse : Expr} {pos : Pos} {Q : Value → Loc → Led → Led → Prop}
    (h : EW c (isTrue test env (eval test env)) m M Φ (fun b m' M' Φ' => if b = true then EW c (eval body env) m' M' Φ' Q else EW c (eval orelse env) m' M' Φ' Q)) :
    EW c (eval (.IfExp test body orelse pos) env) m M Φ Q :=
  EW.mk fun G s S => PyProof.Rows.IfExp_ (wpAny_mono (h.run G s S) (fun _ _ x => ite_of G x) fun _ _ x => x)

theorem Return_ {e : Expr} {pos : Pos} {Q : Flow → Loc → Led → Led → Prop} (h : EW c (eval e env) m M Φ (fun v => Q (.ret v))) : EW c (exec (.Return (some e) pos) env) m M Φ Q :=
  EW.mk fun G s S => wpAny_Return_some (h.run G s S)

theorem BinOp_ {l r : Expr} {op : Operator} {pos : Pos} {Q : Value → Loc → Led → Led → Prop}
    (h : EW c (eval l env) m M Φ (fun a m M Φ => EW c (eval r env) m M Φ (fun b m M Φ => EW c (binaryOp op a b) m M Φ Q))) : EW c (eval (.BinOp l op r pos) env) m M Φ Q :=
  EW.mk fun G _ S => wpAny_BinOp (h.then2 G S)
theorem Compare_ {l r : Expr} {op : CmpOp} {pos : Pos} {Q : Value → Loc → Led → Led → Prop}
    (h : EW c (eval l env) m M Φ (fun a m M Φ => EW c (eval r env) m M Φ (fun b m M Φ => EW c (compareOp op a b) m M Φ Q))) (hb : behindInMarks op r = false := by with_unfolding_all rfl) : EW c (eval (.Compare l [op] [r] pos) env) m M Φ Q :=
  EW.mk fun G _ S => wpAny_Compare1 (h.then2 G S) hb
theorem isTrue_Compare {l r : Expr} {op : CmpOp} {pos : Pos} {whole : Sem Value} {Q : Bool → Loc → Led → Led → Prop}
    (h : EW c (eval l env) m M Φ (fun a m M Φ => EW c (eval r env) m M Φ (fun b m M Φ => EW c (compareOp op a b) m M Φ (fun v m M Φ => EW c (truthy v) m M Φ Q)))) (hb : behindInMarks op r = false := by with_unfolding_all rfl) :
    EW c (isTrue (.Compare l [op] [r] pos) env whole) m M Φ Q :=
  EW.mk fun G _ S => wpAny_isTrue_Compare1 (h.then3 G S) hb
theorem Subscript_ {value slice : Expr} {pos : Pos} {Q : Value → Loc → Led → Led → Prop}
    (h : EW c (eval value env) m M Φ (fun o m M Φ => EW c (eval slice env) m M Φ (fun i m M Φ => EW c (subscriptTail value slice o i) m M Φ Q))) : EW c (eval (.Subscript value slice pos) env) m M Φ Q :=
  EW.mk fun G _ S => PyProof.Rows.Subscript_ (h.then2 G S)
theorem Attribute_ {value : Expr} {attr : PySem.Str} {pos : Pos} {Q : Value → Loc → Led → Led → Prop}
    (h : EW c (eval value env) m M Φ (fun o m M Φ => EW c (getAttr o attr true) m M Φ Q))
    (e : eval (value.Attribute attr pos) env = (do let o ← eval value env; standAt pos.atName; let r ← holding [o] (getAttr o attr true); letTemporaryGo value o r; Pure.pure r) := by with_unfolding_all rfl) : EW c (eval (.Attribute value attr pos) env) m M Φ Q :=
  EW.mk fun G _ S => Attribute_any_ (h.then G S) e
theorem Call_ {func : Expr} {args : List Expr} {pos : Pos} {Q : Value → Loc → Led → Led → Prop}
    (h : EW c (eval func env) m M Φ (fun f m M Φ => EW c (callWith pos f [] (backTo pos (starEach args env)) []) m M Φ Q))
    (e : eval (func.Call args [] pos) env = (do let f ← eval func env; callWith pos f [] (backTo pos (starEach args env)) (backToKw pos (keywordEach [] env))) := by with_unfolding_all rfl) : EW c (eval (.Call func args [] pos) env) m M Φ Q :=
  EW.mk fun G _ S => PyProof.Rows.Call_ (h.then G S) e
theorem MethodCall_ {o : Expr} {name : PySem.Str} {apos pos : Pos} {args : List Expr} {pl : Sem Bool} {Q : Value → Loc → Led → Led → Prop}
    (h : EW c (eval o env) m M Φ (fun ov m M Φ => EW c (getMethod ov name pl) m M Φ (fun fx m M Φ => EW c (callWith pos fx.1 fx.2 (backTo pos (starEach args env)) []) m M Φ Q)))
    (e : eval ((o.Attribute name apos).Call args [] pos) env = (do let ov ← eval o env; standAt apos.atName; let (f, first) ← holding [ov] (getMethod ov name pl); callWith pos f first (backTo pos (starEach args env)) []) := by with_unfolding_all rfl) : EW c (eval (.Call (.Attribute o name apos) args [] pos) env) m M Φ Q :=
  EW.mk fun G _ S => PyProof.Rows.MethodCall_ (pl := pl) (h.then2 G S) e

theorem args_nil {pos : Pos} {Q : List Value → Loc → Led → Led → Prop} (h : Q [] m M Φ) : EW c (spliced (backTo pos (starEach [] env))) m M Φ Q :=
  EW.mk fun _ _ S => PyProof.Rows.args_nil (Post.same S h)
theorem args_cons {e : Expr} {rest : List Expr} {pos : Pos} {Q : List Value → Loc → Led → Led → Prop}
    (h : EW c (eval e env) m M Φ (fun v m M Φ => EW c (spliced (backTo pos (starEach rest env))) m M Φ (fun vs => Q (v :: vs))))
    (hs : starEach (e :: rest) env = (false, eval e env) :: starEach rest env := by with_unfolding_all rfl) : EW c (spliced (backTo pos (starEach (e :: rest) env))) m M Φ Q := by
  refine EW.mk fun G s S => ?_
  rw [hs]
  exact Calls.spliced_cons (x := eval e env) (EW.thenD (f := fun v => spliced (backTo pos (starEach rest env))) (Q := fun v vs => Q (v :: vs)) h G S)
end

end

section
-- part LzRules

theorem mem_of_get {M Φ : Led} {i : Nat} {p : Addr × Obj} (h : M[i]? = some p) : p ∈ M ++ Φ := List.mem_append_left _ (List.mem_of_getElem? h)
theorem mem_led {M Φ : Led} {p : Addr × Obj} (h : p ∈ Φ) : p ∈ M ++ Φ := List.mem_append_right _ h

section
variable {c : Cx} {m : Loc} {M Φ : Led} {s : Shared}

theorem Sat.at (S : Sat c m M Φ s) {a : Addr} {o : Obj} (h : (a, o) ∈ M ++ Φ) : s.heap.get? a = some o := (S.N _ h).1
theorem Sat.lt (S : Sat c m M Φ s) {p : Addr × Obj} (h : p ∈ M ++ Φ) : p.1 < s.heap.objs.size := Heap.lt_size (S.N _ h).1

theorem Sat.set (S : Sat c m M Φ s) {i : Nat} {a : Addr} {o o' : Obj} {h' : Heap} {tk : Nat} (hi : M[i]? = some (a, o)) (hs : Heap.SameBut a s.heap h') (ho : h'.get? a = some o') :
    Sat c m (M.set i (a, o')) Φ { s with heap := h', toks := tk } := by
  have hm : (a, o) ∈ M ++ Φ := mem_of_get hi
  have hlt : i < M.length := by
    rcases Nat.lt_or_ge i M.length with h | h
    · exact h
    · rw [List.getElem?_eq_none h] at hi; cases hi
  have hget : M[i] = (a, o) := by rw [List.getElem?_eq_getElem hlt] at hi; exact Option.some.inj hi
  have hkeys : (M.set i (a, o')).map (·.1) = M.map (·.1) := by
    rw [List.map_set]
    refine List.ext_getElem? fun j => ?_
    rw [List.getElem?_set]
    split
    · rename_i e; subst e
      rw [List.length_map, if_pos hlt, List.getElem?_map, List.getElem?_eq_getElem hlt, hget]; rfl
    · rfl
  have hnd := S.S.1
  refine ⟨S.F.change hs (S.N _ hm).2.1 (S.N _ hm).2.2, fun p hp => ?_, ⟨by rw [hkeys]; exact hnd, fun p hp q hq => ?_⟩⟩
  · have key : p = (a, o') ∨ (p.1 ≠ a ∧ p ∈ M ++ Φ) := by
      rcases List.mem_append.mp hp with hp | hp
      · obtain ⟨j, hj⟩ := List.mem_iff_getElem?.mp hp
        rw [List.getElem?_set] at hj
        split at hj
        · first | exact .inl (Option.some.inj hj).symm | (rw [if_pos hlt] at hj; exact .inl (Option.some.inj hj).symm)
        · rename_i hne
          refine .inr ⟨fun e => ?_, mem_of_get hj⟩
          have h1 : (M.map (·.1))[i]? = some a := by rw [List.getElem?_map, hi]; rfl
          have h2 : (M.map (·.1))[j]? = some a := by rw [List.getElem?_map, hj, ← e]; rfl
          exact hne ((List.getElem?_inj (by rw [List.length_map]; exact hlt) hnd).mp (h1.trans h2.symm))
      · refine .inr ⟨fun e => S.S.2 p hp (a, o) (List.mem_of_getElem? hi) e, mem_led hp⟩
    rcases key with rfl | ⟨hne, hp'⟩
    · exact ⟨ho, (S.N _ hm).2⟩
    · exact ⟨(hs.2 _ hne).trans (S.N _ hp').1, (S.N _ hp').2⟩
  · have h3 : q.1 ∈ M.map (·.1) := hkeys ▸ List.mem_map_of_mem hq
    obtain ⟨r, hr, e⟩ := List.mem_map.mp h3
    rw [← e]; exact S.S.2 p hp r hr

theorem Sat.big (S : Sat c m M Φ s) (G : Good c) : sysModules < s.heap.objs.size := by
  obtain ⟨p, l, mean, mg, mb, T⟩ := G.top
  have h1 := modules_low T.nolimit
  have h2 := S.F.above
  have h3 := S.F.ns.lt
  exact Nat.lt_of_lt_of_le h1 (Nat.le_trans h2 (Nat.le_of_lt h3))
theorem Sat.pushF (S : Sat c m M Φ s) (o : Obj) {tk : Nat} (hf : o.isFreed = false := by with_unfolding_all rfl) : Sat c m M ((s.heap.objs.size, o) :: Φ) { s with heap := s.heap.push o, toks := tk } := by
  have N' := News.push S.F S.N o hf
  refine ⟨S.F.push o, fun p hp => N' p ?_, ⟨S.S.1, fun p hp q hq => ?_⟩⟩
  · rcases List.mem_append.mp hp with h | h
    · exact .tail _ (List.mem_append_left _ h)
    · rcases List.mem_cons.mp h with rfl | h
      · exact .head _
      · exact .tail _ (List.mem_append_right _ h)
  · rcases List.mem_cons.mp hp with rfl | hp
    · exact Nat.ne_of_gt (S.lt (List.mem_append_left _ hq))
    · exact S.S.2 p hp q hq

theorem Sat.pushM (S : Sat c m M Φ s) (o : Obj) {tk : Nat} (hf : o.isFreed = false := by with_unfolding_all rfl) : Sat c m ((s.heap.objs.size, o) :: M) Φ { s with heap := s.heap.push o, toks := tk } := by
  have N' := News.push S.F S.N o hf
  refine ⟨S.F.push o, fun p hp => N' p hp, ⟨?_, fun p hp q hq => ?_⟩⟩
  · rw [List.map_cons, List.nodup_cons]
    refine ⟨fun h => ?_, S.S.1⟩
    obtain ⟨q, hq, e⟩ := List.mem_map.mp h
    exact Nat.ne_of_lt (S.lt (List.mem_append_left _ hq)) e
  · rcases List.mem_cons.mp hq with rfl | hq
    · exact Nat.ne_of_lt (S.lt (List.mem_append_right _ hp))
    · exact S.S.2 p hp q hq

/-- a ledger of which the first mutable is frozen -/
theorem Sat.freeze {p : Addr × Obj} (S : Sat c m (p :: M) Φ s) : Sat c m M (p :: Φ) s := by
  have mv : ∀ q ∈ M ++ p :: Φ, q ∈ p :: M ++ Φ := fun q hq => by
    rcases List.mem_append.mp hq with h | h
    · exact .tail _ (List.mem_append_left _ h)
    · rcases List.mem_cons.mp h with rfl | h
      · exact .head _
      · exact .tail _ (List.mem_append_right _ h)
  refine ⟨S.F, fun q hq => S.N q (mv q hq), ⟨(List.nodup_cons.mp S.S.1).2, fun q hq r hr => ?_⟩⟩
  · rcases List.mem_cons.mp hq with rfl | hq
    · intro e
      exact (List.nodup_cons.mp S.S.1).1 (List.mem_map.mpr ⟨r, hr, e.symm⟩)
    · exact S.S.2 q hq r (.tail _ hr)

/-- forget a mutable -/
theorem Sat.drop {p : Addr × Obj} (S : Sat c m (p :: M) Φ s) : Sat c m M Φ s :=
  ⟨S.F, fun q hq => S.N q (.tail _ hq), ⟨(List.nodup_cons.mp S.S.1).2, fun q hq r hr => S.S.2 q hq r (.tail _ hr)⟩⟩
theorem Sat.frm {m' : Loc} {h' : Heap} {tk : Nat} (S : Sat c m M Φ s) (F : Fr c.h₀ c.L h' m') (N : News c.h₀ c.L h' (M ++ Φ)) : Sat c m' M Φ { s with heap := h', toks := tk } := ⟨F, N, S.S⟩
end

section
variable {α : Type} {c : Cx} {t : Sem α} {m : Loc} {M Φ : Led}
theorem EW.freeze {Q : α → Loc → Led → Led → Prop} (h : EW c t m M Φ (fun v m' M' Φ' => ∃ p M'', M' = p :: M'' ∧ Q v m' M'' (p :: Φ'))) : EW c t m M Φ Q :=
  EW.mk fun G s S => wpAny_mono (h.run G s S) (fun _ _ ⟨m', M', Φ', h', tk', e, S', sub', p, M'', e', q⟩ => by
    subst e'; exact ⟨m', M'', p :: Φ', h', tk', e, S'.freeze, fun r hr => .tail _ (sub' r hr), q⟩) fun _ _ x => x
theorem EW.dropped {Q : α → Loc → Led → Led → Prop} (h : EW c t m M Φ (fun v m' M' Φ' => ∃ p M'', M' = p :: M'' ∧ Q v m' M'' Φ')) : EW c t m M Φ Q :=
  EW.mk fun G s S => wpAny_mono (h.run G s S) (fun _ _ ⟨m', M', Φ', h', tk', e, S', sub', p, M'', e', q⟩ => by
    subst e'; exact ⟨m', M'', Φ', h', tk', e, S'.drop, sub', q⟩) fun _ _ x => x
/-- freeze before -/
theorem EW.frozen {p : Addr × Obj} {Q : α → Loc → Led → Led → Prop} (h : EW c t m M (p :: Φ) Q) : EW c t m (p :: M) Φ Q :=
  EW.mk fun G s S => wpAny_mono (h.run G s S.freeze) (fun _ _ x => x.trans (fun q hq => .tail _ hq)) fun _ _ x => x
end

-- names
section
variable {c : Cx} {m : Loc} {M Φ : Led} {env : Env} {x : PySem.Str} {pos : Pos} {v : Value} {Q : Value → Loc → Led → Led → Prop}
variable {cn : PySem.Str} {cs : Scope} {a : Addr} {ccd : Value} {cl : List (PySem.Str × Addr)}
theorem nL (hv : m x = some v) (h : Q v m M Φ)
    (hk : cs.kind = .function := by with_unfolding_all rfl) (hx : (envX cn cs c.L a ccd cl).kindOf x = some .local := by with_unfolding_all rfl) (hd : (x == ("__debug__" : PySem.Str)) = false := by with_unfolding_all decide) :
    EW c (eval (.Name x pos) (envX cn cs c.L a ccd cl)) m M Φ Q := EW.mk fun _ _ S => nameX_L S.F hv (Post.same S h) hk hx hd
theorem nC {b : Addr} {o : Obj} (hc : cl.lookup x = some b) (hm : (b, o) ∈ M ++ Φ) (hd : o.data = .cell (some v)) (h : Q v m M Φ)
    (hk : cs.kind = .function := by with_unfolding_all rfl) (hx : (envX cn cs c.L a ccd cl).kindOf x = some .cell := by with_unfolding_all rfl) (hb : (x == ("__debug__" : PySem.Str)) = false := by with_unfolding_all decide) :
    EW c (eval (.Name x pos) (envX cn cs c.L a ccd cl)) m M Φ Q := EW.mk fun _ _ S => nameX_C S.N hc hm hd (Post.same S h) hk hx hb
/-- a name of the text's top -/
theorem nK (e : nsIn (hd.heap_39 c.w.params) mainGlobals x = some (some v)) (h : Q v m M Φ) (hg : env.globals = mainGlobals := by with_unfolding_all rfl) (hk : env.scope.kind = .function := by with_unfolding_all rfl)
    (hx : env.kindOf x = some .globalImplicit := by with_unfolding_all rfl) (hd : (x == ("__debug__" : PySem.Str)) = false := by with_unfolding_all decide) : EW c (eval (.Name x pos) env) m M Φ Q := EW.mk fun G _ S => by
  obtain ⟨p, l, mean, mg, mb, T⟩ := G.top
  exact nameG_K (mb := mb) (p := p) (loose := l) S.F G.kin (TopRead.mk T.g T.b T.nolimit T.builtins T.free) e (Post.same S h) hg hk hx hd
/-- a built-in's name -/
theorem nB (e : nsIn (hd.heap_39 c.w.params) mainGlobals x = some none) (hv : bootBuiltins x = some v) (h : Q v m M Φ) (hn : x ≠ "__name__" := by with_unfolding_all decide) (hg : env.globals = mainGlobals := by with_unfolding_all rfl) (hbu : env.builtins = builtinsNs := by with_unfolding_all rfl) (hk : env.scope.kind = .function := by with_unfolding_all rfl)
    (hx : env.kindOf x = some .globalImplicit := by with_unfolding_all rfl) (hd : (x == ("__debug__" : PySem.Str)) = false := by with_unfolding_all decide) : EW c (eval (.Name x pos) env) m M Φ Q := EW.mk fun G _ S => by
  obtain ⟨p, l, mean, mg, mb, T⟩ := G.top
  exact Name_function_global hk hx (loadGlobal_builtin (env := env) (by rw [hg]; exact T.g.keeps S.F.keep) (mg_none_of G.kin T.g e) (by rw [hbu]; exact T.b.keeps S.F.keep) ((T.builtins x hn).trans hv) (Post.same S h)) hd
end

-- storing a name
section
variable {c : Cx} {m : Loc} {M Φ : Led} {x : PySem.Str} {v : Value}
variable {cn : PySem.Str} {cs : Scope} {a : Addr} {ccd : Value} {cl : List (PySem.Str × Addr)}
abbrev up (m : Loc) (x : PySem.Str) (v : Value) : Loc := fun y => if y = x then some v else m y
theorem sL {Q : Unit → Loc → Led → Led → Prop} (h : Q () (up m x v) M Φ) (hk : cs.kind = .function := by with_unfolding_all rfl) (hx : (envX cn cs c.L a ccd cl).kindOf x = some .local := by with_unfolding_all rfl) :
    EW c (storeName (envX cn cs c.L a ccd cl) x v) m M Φ Q :=
  EW.mk fun _ _ S => storeX_L S.F S.N (fun _ F N => Post.here (S.frm F N) (fun _ h => h) h) hk hx
theorem Assign_ {px pos : Pos} {value : Expr} {env : Env} {Q : Flow → Loc → Led → Led → Prop}
    (h : EW c (eval value env) m M Φ (fun v m M Φ => EW c (storeName env x v) m M Φ (fun _ => Q .next)))
    (hs : swapsWith value (some (.Name x px)) pos.line env = Pure.pure false := by with_unfolding_all rfl) : EW c (exec (.Assign [.Name x px] value pos) env) m M Φ Q :=
  EW.mk fun G _ S => wpAny_Assign_Name (EW.thenD (f := fun v => storeName env x v) (Q := fun _ _ => Q .next) h G S) hs
theorem AssignAttr_ {px pos : Pos} {o value : Expr} {attr : PySem.Str} {env : Env} {Q : Flow → Loc → Led → Led → Prop}
    (h : EW c (eval value env) m M Φ (fun v m M Φ => EW c (eval o env) m M Φ (fun ov m M Φ => EW c (setAttr ov attr v) m M Φ (fun _ => Q .next))))
    (hs : swapsWith value (some (o.Attribute attr px)) pos.line env = Pure.pure false := by with_unfolding_all rfl) : EW c (exec (.Assign [.Attribute o attr px] value pos) env) m M Φ Q :=
  EW.mk fun G _ S => plainObj_wpAny_Assign_Attribute (EW.then2 (f := fun _ => eval o env) (g := fun v ov => setAttr ov attr v) (Q := fun _ => Q .next) h G S) hs
theorem AssignSub_ {px pos : Pos} {o i value : Expr} {env : Env} {Q : Flow → Loc → Led → Led → Prop}
    (h : EW c (eval value env) m M Φ (fun v m M Φ => EW c (eval o env) m M Φ (fun ov m M Φ => EW c (eval i env) m M Φ (fun iv m M Φ => EW c (setItem ov iv v) m M Φ (fun _ => Q .next)))))
    (hs : swapsWith value (some (o.Subscript i px)) pos.line env = Pure.pure false := by with_unfolding_all rfl) : EW c (exec (.Assign [.Subscript o i px] value pos) env) m M Φ Q :=
  EW.mk fun G _ S => wpAny_Assign_Subscript (EW.then3 (f := fun _ => eval o env) (g := fun _ _ => eval i env) (k := fun v ov iv => setItem ov iv v) (Q := fun _ => Q .next) h G S) hs
theorem Expr_ {e : Expr} {pos : Pos} {env : Env} {Q : Flow → Loc → Led → Led → Prop} (h : EW c (eval e env) m M Φ (fun _ => Q .next)) (hi : interactive env = false := by with_unfolding_all rfl)
    (hs : swapsWith e none pos.line env = Pure.pure false := by with_unfolding_all rfl) : EW c (exec (.Expr e pos) env) m M Φ Q := EW.mk fun G s S => wpAny_Expr_any (h.run G s S) hi hs
end

-- constants
section
variable {c : Cx} {m : Loc} {M Φ : Led} {env : Env} {k : Nat} {pos : Pos} {Q : Value → Loc → Led → Led → Prop}
theorem cInt {i : Int} (h : ∀ t, Q (.int i t) m M Φ) : EW c (eval (.Constant (.int i) k pos) env) m M Φ Q := EW.mk fun _ _ S => wpAny_Constant_int (Post.tok S (h _))
theorem cBool {b : Bool} (h : Q (.bool b) m M Φ) : EW c (eval (.Constant (.bool b) k pos) env) m M Φ Q := EW.mk fun _ _ S => Constant_bool (Post.same S h)
theorem cNone (h : Q .none m M Φ) : EW c (eval (.Constant .none k pos) env) m M Φ Q := EW.mk fun _ _ S => Constant_none (Post.same S h)
end

-- ints
section
variable {c : Cx} {m : Loc} {M Φ : Led} {a b : Int} {t u : Tok} {Q : Value → Loc → Led → Led → Prop}
theorem iAdd (h : ∀ t, Q (.int (a + b) t) m M Φ) : EW c (binaryOp .Add (.int a t) (.int b u)) m M Φ Q := EW.mk fun _ _ S => add_int (Post.tok S (h _))
theorem iSub (h : ∀ t, Q (.int (a - b) t) m M Φ) : EW c (binaryOp .Sub (.int a t) (.int b u)) m M Φ Q := EW.mk fun _ _ S => sub_int (Post.tok S (h _))
theorem iMod (hb : b ≠ 0) (h : ∀ t, Q (.int (a.fmod b) t) m M Φ) : EW c (binaryOp .Mod (.int a t) (.int b u)) m M Φ Q := EW.mk fun _ _ S => mod_int' hb (Post.tok S (h _))
theorem iMul (h : ∀ t, Q (.int (a * b) t) m M Φ) (hok : IntMulOk a b) : EW c (binaryOp .Mult (.int a t) (.int b u)) m M Φ Q := EW.mk fun _ _ S => mul_int (Post.tok S (h _)) hok
theorem iLt (h : Q (.bool (decide (a < b))) m M Φ) : EW c (compareOp .Lt (.int a t) (.int b u)) m M Φ Q := EW.mk fun _ _ S => lt_int (Post.same S h)
theorem iEq (h : Q (.bool (a == b)) m M Φ) : EW c (compareOp .Eq (.int a t) (.int b u)) m M Φ Q := EW.mk fun _ _ S => eq_int (Post.same S h)
theorem tBool {b : Bool} {Q : Bool → Loc → Led → Led → Prop} (h : Q b m M Φ) : EW c (truthy (.bool b)) m M Φ Q := EW.mk fun _ _ S => wpAny_truthy_bool (Post.same S h)
theorem sEq {x y : PySem.Str} (h : Q (.bool (x == y)) m M Φ) : EW c (compareOp .Eq (.str x t) (.str y u)) m M Φ Q := EW.mk fun _ _ S => eq_str (Post.same S h)
end

end

section
-- part LzCalls

section
variable {c : Cx} {m : Loc} {M Φ : Led} {Q : Value → Loc → Led → Led → Prop}

/-- the callee's context -/
def callee (c : Cx) (g : Heap) (L' : Addr) (env : Env) : Cx := { w := c.w, A := c.A.deeper env, h₀ := g, L := L', env := env, n := c.n - 1 }

theorem Good.deeper {g : Heap} {L' : Addr} {env : Env} {base : Heap} {outer : List Env} (G : Good c) (hn : 1 ≤ c.n) (B : Below c.A base outer g) (X : (hd.heap_39 c.w.params).In g)
    (T : ∃ (p : PySem.Program) (loose : List PySem.Str) (mean : ExcName → Option Value) (mg mb : PySem.Str → Option Value), Top p loose mean mg mb g)
    (hf : env.frame = some L') (hk : env.scope.kind = .function) : Good (callee c g L' env) := by
  refine ⟨T, X, ⟨c.A, base, outer, B, ?_⟩, hf, hk, G.handled, ?_, ?_⟩
  · show (c.A.deeper env).frames = _
    unfold Around.deeper; rw [B.stack]; rfl
  · have := G.room
    show (c.A.deeper env).depth + 4 * (c.n - 1) + 10 ≤ _
    unfold Around.deeper; dsimp only; omega
  · have := G.units
    show (c.A.deeper env).units + 20 * (c.n - 1) + 200 ≤ _
    unfold Around.deeper; dsimp only; omega

/-- a call of a def of the text, by its body -/
theorem call_def {f : Addr} {args : List Value} {oc : Value} {od : Option Addr} {name qual : PySem.Str} {params : Arguments} {body : List Stmt} {scope : Scope} {dV kV doc pm cdv ct : Value} {an : Option Addr} {osl : Array (Option Value)} {binds : List (PySem.Str × Value)}
    (ho : List.lookup f (hd.heap_39 c.w.params) = some ⟨oc, od, .func (fnOf name qual params body scope dV kV doc pm an cdv ct), osl⟩) (hcd : codeIn (hd.heap_39 c.w.params) cdv qual = true) (hn : 1 ≤ c.n)
    (hbind : bindArgs (fnOf name qual params body scope dV kV doc pm an cdv ct) ⟨args, []⟩ = pure binds) (hloc : ∀ y ∈ binds, scope.names.lookup y.1 = some .local)
    (hco : scope.isCoroutine = false) (hgen : scope.isGenerator = false) (hk : scope.kind = .function) (hcell : ∀ x ∈ scope.names, x.2 ≠ .cell)
    (h : ∀ c' : Cx, c'.w = c.w → c'.n = c.n - 1 → (∀ b o, c.h₀.get? b = some o → c'.h₀.get? b = some o) →
      EW c' (execs body (envX qual scope c'.L f cdv [])) (fun y => binds.reverse.lookup y) M Φ (fun fl _ M' Φ' => Q (match fl with | .ret v => v | _ => .none) m M' Φ')) :
    EW c (call (.ref f) args) m M Φ Q := by
  refine EW.mk fun G s S => ?_
  obtain ⟨p, l, mean, mg, mb, T⟩ := G.top
  obtain ⟨A₀, base, outer, B, hA⟩ := G.below
  refine wpAny_call (code_def B S.F G.kin S.N T hA G.frame G.kind ho hcd (by have := G.room; omega) (BindsTo.of_eq hbind) hloc (fun g L' h₁ FG F' N' B' X' T' => ?_) hco hgen hk hcell)
  have G' : Good (callee c g L' (envOf qual scope L' f cdv)) := G.deeper hn B' X' ⟨_, _, _, _, _, T'⟩ rfl hk
  refine wpAny_mono ((h (callee c g L' (envOf qual scope L' f cdv)) rfl rfl FG.keep).run G' { s with heap := h₁, toks := s.toks + binds.length } ⟨F', N', S.S⟩) (fun fl s' x => ?_) fun _ _ x => x.elim
  obtain ⟨m', M', Φ', h', tk', rfl, S', sub, q⟩ := x
  exact ⟨L', m', M' ++ Φ', S'.F, S'.N, fun F'' N'' => ⟨m, M', Φ', h', tk', rfl, ⟨F'', N'', S'.S⟩, sub, q⟩⟩

theorem make_at {prog : PySem.Program} {w : World} {A : Around} {K : Frag} {C fI : Addr} {R : Result → Shared → Prop} {s : Shared} {rest : List Value} {kw : List (PySem.Str × Value)} (X : K.In s.heap) (hm : makesIn K C = true)
    (hi : findIn K (.ref C) "__init__" = some (some (.ref fI))) (hf : typeIn K (.ref fI) = some (.type "function"))
    (h : codeAny (model prog w) (A.under (.builtin "type.__call__" ⟨.ref C :: rest, kw⟩)) (.call (.ref fI) ⟨.ref (s.heap.objs.size + 1) :: rest, kw⟩) (InitBack (s.heap.objs.size + 1) R) { s with heap := (s.heap.push (dictOf [] 0)).push (instObj C s.heap.objs.size) }) :
    codeAny (model prog w) A (.call (.ref C) ⟨rest, kw⟩) R s := by
  obtain ⟨hh, g, d, t, os⟩ := s
  exact make_core (makes_of X hm) (looks_findIn X hi) (fun self => bind_fn X self hf) (.inl rfl) h
theorem make_at0 {prog : PySem.Program} {w : World} {A : Around} {K : Frag} {C : Addr} {R : Result → Shared → Prop} {s : Shared} (X : K.In s.heap) (hm : makesIn K C = true)
    (hi : findIn K (.ref C) "__init__" = some (some (.builtin "object.__init__"))) (h : R (.ok (.ret (.ref (s.heap.objs.size + 1)))) { s with heap := (s.heap.push (dictOf [] 0)).push (instObj C s.heap.objs.size) }) :
    codeAny (model prog w) A (.call (.ref C) ⟨[], []⟩) R s := by
  obtain ⟨hh, g, d, t, os⟩ := s
  have Y := makes_of (M := model prog w) X hm
  refine make_core Y (looks_findIn X hi) (fun self => Looks.of_pure (oi_bind self)) (.inr ⟨rfl, rfl⟩) ?_
  have k : ∀ b o, hh.get? b = some o → ((hh.push emptyDict).push (instObj C hh.objs.size)).get? b = some o := fun b o e => Heap.get?_push_of_some _ (Heap.get?_push_of_some _ e)
  have hx : ((hh.push emptyDict).push (instObj C hh.objs.size)).get? (hh.objs.size + 1) = some (instObj C hh.objs.size) := by heap_get
  have t1 : Looks (model prog w) ((hh.push emptyDict).push (instObj C hh.objs.size)) (typeOf (.ref (hh.objs.size + 1))) (.ref C) := (Looks.ld hx).andThen .now
  have t2 : Looks (model prog w) ((hh.push emptyDict).push (instObj C hh.objs.size)) (isInstance (.ref (hh.objs.size + 1)) (.type "object")) true := t1.andThen (Y.top.keeps k)
  refine codeAny_call_builtin oi_plain entry_oi (@check_slot (model prog w) _ _ _ "object.__init__" "object" "__init__" (.ref (hh.objs.size + 1)) [] [] _ oi_kind oi_split t2 (oi_args (.ref (hh.objs.size + 1))) ?_)
  rw [oi_run]
  exact wpAny_pure (And.intro rfl h)

/-- the object of a class without an __init__ -/
theorem call_class0 {C : Addr} (hm : makesIn (hd.heap_39 c.w.params) C = true) (hi : findIn (hd.heap_39 c.w.params) (.ref C) "__init__" = some (some (.builtin "object.__init__")))
    (h : ∀ x dx, (∀ p ∈ M ++ Φ, p.1 < dx) → dx < x → Q (.ref x) m M ((x, instObj C dx) :: (dx, dictOf [] 0) :: Φ)) : EW c (call (.ref C) []) m M Φ Q := by
  refine EW.mk fun G s S => ?_
  refine wpAny_call (make_at0 (S.kin G) hm hi ?_)
  have S₁ := (S.pushF (tk := s.toks) (dictOf [] 0)).pushF (tk := s.toks) (instObj C s.heap.objs.size)
  have e : (s.heap.push (dictOf [] 0)).objs.size = s.heap.objs.size + 1 := Heap.size_push _ _
  dsimp only at S₁
  rw [e] at S₁
  exact Post.here (tk' := s.toks) S₁ (fun p hp => .tail _ (.tail _ hp)) (h _ _ (fun p hp => S.lt hp) (Nat.lt_succ_self _))

/-- a class of the text is called: its __init__ fills the new object's dict, which is frozen behind it -/
theorem call_class {C fI : Addr} {args : List Value} {oc : Value} {od : Option Addr} {name qual : PySem.Str} {params : Arguments} {body : List Stmt} {scope : Scope} {dV kV doc pm cdv ct : Value} {an : Option Addr} {osl : Array (Option Value)} {binds : Addr → List (PySem.Str × Value)}
    (hm : makesIn (hd.heap_39 c.w.params) C = true) (hi : findIn (hd.heap_39 c.w.params) (.ref C) "__init__" = some (some (.ref fI))) (hfn : isFn (hd.heap_39 c.w.params) (.ref fI) = true)
    (ho : List.lookup fI (hd.heap_39 c.w.params) = some ⟨oc, od, .func (fnOf name qual params body scope dV kV doc pm an cdv ct), osl⟩) (hcd : codeIn (hd.heap_39 c.w.params) cdv qual = true) (hn : 2 ≤ c.n)
    (hbind : ∀ x, bindArgs (fnOf name qual params body scope dV kV doc pm an cdv ct) ⟨.ref x :: args, []⟩ = pure (binds x)) (hloc : ∀ x, ∀ y ∈ binds x, scope.names.lookup y.1 = some .local)
    (hco : scope.isCoroutine = false) (hgen : scope.isGenerator = false) (hk : scope.kind = .function) (hcell : ∀ x ∈ scope.names, x.2 ≠ .cell)
    (h : ∀ (x dx : Addr) (c' : Cx), (∀ p ∈ M ++ Φ, p.1 < dx) → dx < x → c'.w = c.w → c'.n = c.n - 2 →
      EW c' (execs body (envX qual scope c'.L fI cdv [])) (fun y => (binds x).reverse.lookup y) ((dx, dictOf [] 0) :: M) ((x, instObj C dx) :: Φ)
        (fun fl _ M' Φ' => (match fl with | .ret v => v | _ => .none) = .none ∧ Q (.ref x) m M' Φ')) :
    EW c (call (.ref C) args) m M Φ Q := by
  refine EW.mk fun G s S => ?_
  obtain ⟨p, l, mean, mg, mb, T⟩ := G.top
  obtain ⟨A₀, base, outer, B, hA⟩ := G.below
  refine wpAny_call (make_at (S.kin G) hm hi (beq_iff_eq.mp hfn) ?_)
  have hu : (c.A.under (.builtin "type.__call__" ⟨.ref C :: args, []⟩)).depth = c.A.depth + 1 ∧ (c.A.under (.builtin "type.__call__" ⟨.ref C :: args, []⟩)).units ≤ c.A.units + 4 ∧ (c.A.under (.builtin "type.__call__" ⟨.ref C :: args, []⟩)).frames = c.A.frames ∧ (c.A.under (.builtin "type.__call__" ⟨.ref C :: args, []⟩)).handled = c.A.handled := by
    have e0 : (Code.builtin "type.__call__" ⟨.ref C :: args, []⟩).frames = 0 ∨ (Code.builtin "type.__call__" ⟨.ref C :: args, []⟩).frames = 1 := by first | exact .inl rfl | exact .inr rfl
    have e1 : (Code.builtin "type.__call__" ⟨.ref C :: args, []⟩).envs = [] := rfl
    refine ⟨?_, ?_, ?_, rfl⟩
    · show c.A.depth + _ = _; rfl
    · show c.A.units + (1 + 3 * (Code.builtin "type.__call__" ⟨.ref C :: args, []⟩).frames) ≤ _; rcases e0 with e | e <;> rw [e] <;> omega
    · show pushEnvs (Code.builtin "type.__call__" ⟨.ref C :: args, []⟩).envs _ = _; rw [e1]; rfl
  obtain ⟨u1, u2, u3, u4⟩ := hu
  let c₁ : Cx := { c with A := c.A.under (.builtin "type.__call__" ⟨.ref C :: args, []⟩), n := c.n - 1 }
  have e : (s.heap.push (dictOf [] 0)).objs.size = s.heap.objs.size + 1 := Heap.size_push _ _
  have S₁ : Sat c m ((s.heap.objs.size, dictOf [] 0) :: M) ((s.heap.objs.size + 1, instObj C s.heap.objs.size) :: Φ) { s with heap := (s.heap.push (dictOf [] 0)).push (instObj C s.heap.objs.size) } := by
    have S₁ := (S.pushM (tk := s.toks) (dictOf [] 0)).pushF (tk := s.toks) (instObj C s.heap.objs.size)
    dsimp only at S₁
    rw [e] at S₁
    exact S₁
  refine code_def (A := c₁.A) B S₁.F G.kin S₁.N T (u3.trans hA) G.frame G.kind ho hcd (by have := G.room; show c₁.A.depth < _; rw [u1]; omega) (BindsTo.of_eq (hbind _)) (hloc _) (fun g L' h₁ FG F'' N'' B' X' T' => ?_) hco hgen hk hcell
  have G₁ : Good c₁ := ⟨⟨p, l, mean, mg, mb, T⟩, G.kin, ⟨A₀, base, outer, B, u3.trans hA⟩, G.frame, G.kind, u4.trans G.handled, by
    have := G.room
    show (c.A.under _).depth + 4 * (c.n - 1) + 10 ≤ _
    rw [u1]; omega, by
    have := G.units
    show (c.A.under _).units + 20 * (c.n - 1) + 200 ≤ _
    omega⟩
  have G' : Good (callee c₁ g L' (envOf qual scope L' fI cdv)) := Good.deeper (c := c₁) G₁ (by show 1 ≤ c.n - 1; omega) B' X' ⟨_, _, _, _, _, T'⟩ rfl hk
  refine wpAny_mono ((h _ _ (callee c₁ g L' (envOf qual scope L' fI cdv)) (fun p hp => S.lt hp) (Nat.lt_succ_self _) rfl (by show c.n - 1 - 1 = _; omega)).run G' { s with heap := h₁, toks := s.toks + (binds (s.heap.objs.size + 1)).length } ⟨F'', N'', S₁.S⟩) (fun fl s' y => ?_) fun _ _ x => x.elim
  obtain ⟨m', M', Φ', h'', tk', rfl, S', sub, hret, q⟩ := y
  refine ⟨L', m', _, S'.F, S'.N, fun F3 N3 => ?_⟩
  exact ⟨hret, ⟨m, M', Φ', h'', tk', rfl, ⟨F3, N3, S'.S⟩, fun q hq => sub q (.tail _ hq), q⟩⟩
end

-- callWith
section
variable {c : Cx} {m : Loc} {M Φ : Led} {env : Env} {pos : Pos} {Q : Value → Loc → Led → Led → Prop}
theorem cwK {f : Value} {first : List Value} {e : Expr} {rest : List Expr} (hk : keepIn (hd.heap_39 c.w.params) f = true)
    (h : EW c (spliced (backTo pos (starEach (e :: rest) env))) m M Φ (fun vs m M Φ => EW c (call f (first ++ vs)) m M Φ Q))
    (h1 : starEach (e :: rest) env = (false, eval e env) :: starEach rest env := by with_unfolding_all rfl) (h2 : ((backTo pos (starEach rest env)).any (·.1)) = false := by with_unfolding_all rfl) :
    EW c (callWith pos f first (backTo pos (starEach (e :: rest) env)) []) m M Φ Q := EW.mk fun G s S =>
  callWith_K G.kin hk (wpAny_mono (h.run G s S) (fun vs s' x => ⟨x.use fun m' M' Φ' h' tk' e S' _ _ => e ▸ S'.kin G, Post.wp (f := fun vs => call f (first ++ vs)) G x⟩) fun _ _ x => x) h1 h2
theorem cwK0 {f : Value} {first : List Value} (hk : keepIn (hd.heap_39 c.w.params) f = true) (h : EW c (call f (first ++ [])) m M Φ Q) : EW c (callWith pos f first (backTo pos (starEach [] env)) []) m M Φ Q := EW.mk fun G s S =>
  callWith_K0 (S.kin G) hk (h.run G s S)
theorem cwB {id : String} {first : List Value} {e : Expr} {rest : List Expr}
    (h : EW c (spliced (backTo pos (starEach (e :: rest) env))) m M Φ (fun vs m M Φ => EW c (call (.builtin id) (first ++ vs)) m M Φ Q))
    (h1 : starEach (e :: rest) env = (false, eval e env) :: starEach rest env := by with_unfolding_all rfl) (h2 : ((backTo pos (starEach rest env)).any (·.1)) = false := by with_unfolding_all rfl) :
    EW c (callWith pos (.builtin id) first (backTo pos (starEach (e :: rest) env)) []) m M Φ Q := EW.mk fun G _ S => callWith_method1 (EW.then (f := fun vs => call (.builtin id) (first ++ vs)) h G S) h1 h2
theorem cwB0 {id : String} {first : List Value} (h : EW c (call (.builtin id) first) m M Φ Q) : EW c (callWith pos (.builtin id) first (backTo pos (starEach [] env)) []) m M Φ Q := EW.mk fun G s S => callWith_method0 (h.run G s S)
theorem cwT {T : String} {e : Expr} {rest : List Expr}
    (h : EW c (spliced (backTo pos (starEach (e :: rest) env))) m M Φ (fun vs m M Φ => EW c (call (.type T) vs) m M Φ Q))
    (h1 : starEach (e :: rest) env = (false, eval e env) :: starEach rest env := by with_unfolding_all rfl) (h2 : ((backTo pos (starEach rest env)).any (·.1)) = false := by with_unfolding_all rfl) :
    EW c (callWith pos (.type T) [] (backTo pos (starEach (e :: rest) env)) []) m M Φ Q := EW.mk fun G _ S => PyProof.Rows.callWith_type1 (EW.then (f := fun vs => call (.type T) vs) h G S) h1 h2
end

end

section
-- part LzPrim

-- the fields of an object's dict, in order
inductive Flds : List DictEntry → List (PySem.Str × Value) → Prop
  | nil : Flds [] []
  | cons {h : Int} {n : PySem.Str} {t : Tok} {v : Value} {es : List DictEntry} {fs : List (PySem.Str × Value)} : Flds es fs → Flds (⟨h, .str n t, v⟩ :: es) ((n, v) :: fs)

def putF (name : PySem.Str) (v : Value) : List (PySem.Str × Value) → List (PySem.Str × Value)
  | [] => [(name, v)]
  | (n, u) :: r => if n = name then (n, v) :: r else (n, u) :: putF name v r
def getF (name : PySem.Str) : List (PySem.Str × Value) → Option Value
  | [] => none
  | (n, u) :: r => if n = name then some u else getF name r

theorem isStr_eq (n name : PySem.Str) (t : Tok) : (Value.str n t).isStr name = decide (n = name) := by
  show (n == name) = _
  by_cases h : n = name
  · subst h; simp
  · rw [decide_eq_false h]; exact beq_eq_false_iff_ne.mpr h
theorem Flds.noRef {es : List DictEntry} {fs : List (PySem.Str × Value)} (F : Flds es fs) : es.any (·.refKey) = false := by
  induction F with
  | nil => rfl
  | cons _ ih => rw [List.any_cons, ih]; rfl
theorem Flds.get {es : List DictEntry} {fs : List (PySem.Str × Value)} (F : Flds es fs) (name : PySem.Str) : getL name es = some (getF name fs) := by
  have key : ∀ {es : List DictEntry} {fs : List (PySem.Str × Value)}, Flds es fs → (es.find? (·.key.isStr name)).map (·.val) = getF name fs := by
    intro es fs F
    induction F with
    | nil => rfl
    | @cons h n t v es fs _ ih =>
      rw [List.find?_cons]
      dsimp only
      rw [isStr_eq]
      unfold getF
      by_cases e : n = name
      · rw [decide_eq_true e, if_pos e]; rfl
      · rw [decide_eq_false e, if_neg e]; exact ih
  have k := key F
  unfold getL
  split
  · rename_i e he; rw [he] at k; rw [← k]; rfl
  · rename_i he; rw [he] at k; rw [F.noRef, ← k]; rfl
theorem Flds.put {es : List DictEntry} {fs : List (PySem.Str × Value)} (F : Flds es fs) (name : PySem.Str) (h : Int) (t : Tok) (v : Value) : Flds (putL name h (.str name t) v es) (putF name v fs) := by
  induction F with
  | nil => exact .cons .nil
  | @cons h' n t' u es fs F' ih =>
    unfold putL putF
    dsimp only
    rw [isStr_eq]
    by_cases e : n = name
    · rw [decide_eq_true e, if_pos e, if_pos rfl]; exact .cons F'
    · rw [decide_eq_false e, if_neg e, if_neg (by simp)]; exact .cons ih
theorem Flds.length {es : List DictEntry} {fs : List (PySem.Str × Value)} (F : Flds es fs) : es.length = fs.length := by
  induction F with
  | nil => rfl
  | cons _ ih => rw [List.length_cons, List.length_cons, ih]

section
variable {c : Cx} {m : Loc} {M Φ : Led}

-- attributes
theorem gA {x C dx : Addr} {es : List DictEntry} {n : Nat} {fs : List (PySem.Str × Value)} {name : PySem.Str} {v : Value} {attr : Option Value} {expr : Bool} {Q : Value → Loc → Led → Led → Prop}
    (h1 : (x, instObj C dx) ∈ M ++ Φ) (h2 : (dx, dictOf es n) ∈ M ++ Φ) (F : Flds es fs)
    (hg : plainGet (hd.heap_39 c.w.params) C name = true) (hh : hasDictIn (hd.heap_39 c.w.params) C = true) (ha : findIn (hd.heap_39 c.w.params) (.ref C) name = some attr) (hn : noGet (hd.heap_39 c.w.params) attr = true)
    (hv : getF name fs = some v) (hi : handedIn v = true) (h : Q v m M Φ) : EW c (getAttr (.ref x) name expr) m M Φ Q := EW.mk fun G _ S =>
  get_own S.F G.kin (W.InstAt.of_news S.N h1 h2) hg hh ha hn ((F.get name).trans (by rw [hv])) hi (Post.tok S h)

theorem gM {x C dx f : Addr} {es : List DictEntry} {n : Nat} {fs : List (PySem.Str × Value)} {name : PySem.Str} {pl : Sem Bool} {Q : Value × List Value → Loc → Led → Led → Prop}
    (h1 : (x, instObj C dx) ∈ M ++ Φ) (h2 : (dx, dictOf es n) ∈ M ++ Φ) (F : Flds es fs)
    (hg : plainGet (hd.heap_39 c.w.params) C name = true) (hf : findIn (hd.heap_39 c.w.params) (.ref C) name = some (some (.ref f))) (hfn : isFn (hd.heap_39 c.w.params) (.ref f) = true)
    (hv : getF name fs = none) (h : Q (.ref f, [.ref x]) m M Φ) : EW c (getMethod (.ref x) name pl) m M Φ Q := EW.mk fun G _ S =>
  method_inst S.F G.kin (W.InstAt.of_news S.N h1 h2) hg hf hfn ((F.get name).trans (by rw [hv])) (Post.same S h)

theorem upd_of {a : Addr} {o o' : Obj} : ∀ {M : Led} {i : Nat}, Sep M Φ → M[i]? = some (a, o) → Upd a o o' (M ++ Φ) (M.set i (a, o') ++ Φ)
  | [], i, _, h => by cases h
  | p :: M, 0, S, h => by
    cases h
    refine Upd.head fun q hq => ?_
    rcases List.mem_append.mp hq with hq | hq
    · exact fun e => (List.nodup_cons.mp S.1).1 (List.mem_map.mpr ⟨q, hq, e⟩)
    · exact S.2 q hq _ (.head _)
  | p :: M, i + 1, S, h => by
    refine Upd.tail ?_ (upd_of (M := M) (i := i) ⟨(List.nodup_cons.mp S.1).2, fun q hq r hr => S.2 q hq r (.tail _ hr)⟩ h)
    have hm : (a, o) ∈ M := List.mem_of_getElem? (by simpa using h)
    exact fun e => (List.nodup_cons.mp S.1).1 (List.mem_map.mpr ⟨(a, o), hm, e.symm⟩)

theorem Sep.set {a : Addr} {o o' : Obj} {i : Nat} (S : Sep M Φ) (h : M[i]? = some (a, o)) : Sep (M.set i (a, o')) Φ := by
  have hkeys : (M.set i (a, o')).map (·.1) = M.map (·.1) := by
    rw [List.map_set]
    refine List.ext_getElem? fun j => ?_
    rw [List.getElem?_set]
    split
    · rename_i e; subst e
      have h' : (M.map (·.1))[i]? = some a := by rw [List.getElem?_map, h]; rfl
      split
      · exact h'.symm
      · rename_i hl; exact (List.getElem?_eq_none (Nat.not_lt.mp hl)).symm
    · rfl
  refine ⟨hkeys ▸ S.1, fun p hp q hq => ?_⟩
  have h3 : q.1 ∈ M.map (·.1) := hkeys ▸ List.mem_map_of_mem hq
  obtain ⟨r, hr, e⟩ := List.mem_map.mp h3
  rw [← e]; exact S.2 p hp r hr

theorem sA {x C dx : Addr} {es : List DictEntry} {n i : Nat} {fs : List (PySem.Str × Value)} {name : PySem.Str} {v : Value} {Q : Unit → Loc → Led → Led → Prop}
    (h1 : (x, instObj C dx) ∈ M ++ Φ) (h2 : M[i]? = some (dx, dictOf es n)) (F : Flds es fs)
    (hs : findIn (hd.heap_39 c.w.params) (.ref C) "__setattr__" = some (some (.builtin "object.__setattr__"))) (hp : plainOver (hd.heap_39 c.w.params) C = true) (ht : takerIn (hd.heap_39 c.w.params) C name = some none) (hh : hasDictIn (hd.heap_39 c.w.params) C = true)
    (h : ∀ es' n', Flds es' (putF name v fs) → Q () m (M.set i (dx, dictOf es' n')) Φ) (hz : fs.length < 900 := by with_unfolding_all exact Nat.le_of_ble_eq_true rfl) : EW c (setAttr (.ref x) name v) m M Φ Q := EW.mk fun G s S => by
  have hl : (getL name es).isSome = true := by rw [F.get name]; rfl
  refine set_dict S.F G.kin S.N (W.InstAt.of_news S.N h1 (mem_of_get h2)) rfl hs hp ht hh hl rfl (upd_of S.S h2) ?_ fun h' F' N' => Post.here (m' := m) ⟨F', N', S.S.set h2⟩ (fun _ h => h) (h _ _ (F.put _ _ _ _))
  have hle : ∀ (es : List DictEntry) (hsh : Int) (k : Value), (putL name hsh k v es).length ≤ es.length + 1 := by
    intro es hsh k
    induction es with
    | nil => exact Nat.le_refl _
    | cons e r ih => unfold putL; split <;> simp only [List.length_cons] <;> omega
  have := hle es (PyData.keyHash c.w.params name) (.str name (s.toks + 1))
  have := F.length
  omega

-- sequences
abbrev lo (vs : List Value) (n : Nat) : Obj := W.listOf vs.toArray n
abbrev tp (vs : List Value) (n : Nat) : Obj := { cls := .type "tuple", data := .seq vs.toArray n }
theorem isList {s : Shared} (S : Sat c m M Φ s) {l : Addr} {vs : List Value} {n : Nat} (h : (l, lo vs n) ∈ M ++ Φ) : s.heap.IsList l vs.toArray := ⟨_, S.at h, rfl, n, rfl⟩
theorem isTup {s : Shared} (S : Sat c m M Φ s) {l : Addr} {vs : List Value} {n : Nat} (h : (l, tp vs n) ∈ M ++ Φ) : IsTup s.heap l vs.toArray := ⟨_, S.at h, rfl, n, rfl⟩

theorem xL {value slice : Expr} {l : Addr} {vs : List Value} {n : Nat} {k : Int} {u : Tok} {v : Value} {Q : Value → Loc → Led → Led → Prop} (h1 : (l, lo vs n) ∈ M ++ Φ) (h0 : 0 ≤ k) (hhi : k < 1000000) (hx : vs[k.toNat]? = some v) (h : Q v m M Φ)
    (hs : subscripted slice false (.ref l) (.int k u) = operate [.ref l, .int k u] (getItem (.ref l) (.int k u)) := by with_reducible first | exact sub_const | exact sub_name | exact sub_sub | exact sub_attr | exact sub_call) : EW c (subscriptTail value slice (.ref l) (.int k u)) m M Φ Q := EW.mk fun _ _ S =>
  tail_any (isList S h1).typeIs slot_list_getitem.lookup (wpAny_getItem_list (isList S h1) h0 (by omega) (by simpa using hx) (Post.same S h)) hs
theorem xT {value slice : Expr} {l : Addr} {vs : List Value} {n : Nat} {k : Int} {u : Tok} {v : Value} {Q : Value → Loc → Led → Led → Prop} (h1 : (l, tp vs n) ∈ M ++ Φ) (h0 : 0 ≤ k) (hhi : k < 1000000) (hx : vs[k.toNat]? = some v) (h : Q v m M Φ)
    (hs : subscripted slice false (.ref l) (.int k u) = operate [.ref l, .int k u] (getItem (.ref l) (.int k u)) := by with_reducible first | exact sub_const | exact sub_name | exact sub_sub | exact sub_attr | exact sub_call) : EW c (subscriptTail value slice (.ref l) (.int k u)) m M Φ Q := EW.mk fun _ _ S => by
  have hlt : k.toNat < vs.length := by
    rcases Nat.lt_or_ge k.toNat vs.length with h | h
    · exact h
    · rw [List.getElem?_eq_none h] at hx; cases hx
  refine tail_any (isTup S h1).typeIs slot_tuple_getitem.lookup (getItem_tuple (isTup S h1) (by omega) (by omega) (j := k.toNat) ?_ (by simpa using hx) (Post.same S h)) hs
  unfold seqIndex?
  have e : (k.toNat : Int) = k := Int.toNat_of_nonneg h0
  have h2 : k < (vs.length : Int) := by omega
  simp only [List.size_toArray, if_neg (Int.not_lt.mpr h0), decide_eq_true h0, decide_eq_true h2, Bool.and_self, if_true]
end

end

section
-- part LzPrim2

def LO (o : Obj) (vs : List Value) : Prop := o.cls = .type "list" ∧ ∃ n, o.data = .seq vs.toArray n
def TO (o : Obj) (vs : List Value) : Prop := o.cls = .type "tuple" ∧ ∃ n, o.data = .seq vs.toArray n
theorem LO.lo {vs : List Value} {n : Nat} : LO (lo vs n) vs := ⟨rfl, n, rfl⟩
theorem TO.tp {vs : List Value} {n : Nat} : TO (tp vs n) vs := ⟨rfl, n, rfl⟩

section
variable {c : Cx} {m : Loc} {M Φ : Led}
theorem LO.at {o : Obj} {vs : List Value} (h : LO o vs) {s : Shared} (S : Sat c m M Φ s) {l : Addr} (hm : (l, o) ∈ M ++ Φ) : s.heap.IsList l vs.toArray := ⟨o, S.at hm, h.1, h.2⟩
theorem TO.at {o : Obj} {vs : List Value} (h : TO o vs) {s : Shared} (S : Sat c m M Φ s) {l : Addr} (hm : (l, o) ∈ M ++ Φ) : IsTup s.heap l vs.toArray := ⟨o, S.at hm, h.1, h.2⟩

theorem yL {value slice : Expr} {l : Addr} {o : Obj} {vs : List Value} {k : Int} {u : Tok} {v : Value} {Q : Value → Loc → Led → Led → Prop} (h1 : (l, o) ∈ M ++ Φ) (ho : LO o vs) (h0 : 0 ≤ k) (hhi : k < 1000000) (hx : vs[k.toNat]? = some v) (h : Q v m M Φ)
    (hs : subscripted slice false (.ref l) (.int k u) = operate [.ref l, .int k u] (getItem (.ref l) (.int k u)) := by with_reducible first | exact sub_const | exact sub_name | exact sub_sub | exact sub_attr | exact sub_call) : EW c (subscriptTail value slice (.ref l) (.int k u)) m M Φ Q := EW.mk fun _ _ S =>
  tail_any (ho.at S h1).typeIs slot_list_getitem.lookup (wpAny_getItem_list (ho.at S h1) h0 (by omega) (by simpa using hx) (Post.same S h)) hs

-- more on ints and strs
variable {a b : Int} {t u : Tok} {Q : Value → Loc → Led → Led → Prop}
theorem iGt (h : Q (.bool (decide (b < a))) m M Φ) : EW c (compareOp .Gt (.int a t) (.int b u)) m M Φ Q := EW.mk fun _ _ S => gt_int (Post.same S h)
theorem iGe (h : Q (.bool (decide (b ≤ a))) m M Φ) : EW c (compareOp .GtE (.int a t) (.int b u)) m M Φ Q := EW.mk fun _ _ S => ge_int (Post.same S h)
theorem iNe (h : Q (.bool (a != b)) m M Φ) : EW c (compareOp .NotEq (.int a t) (.int b u)) m M Φ Q := EW.mk fun _ _ S => ne_int (Post.same S h)
theorem sNe {x y : PySem.Str} (h : Q (.bool (x != y)) m M Φ) : EW c (compareOp .NotEq (.str x t) (.str y u)) m M Φ Q := EW.mk fun _ _ S => ne_str (Post.same S h)
theorem cStr {env : Env} {k : Nat} {pos : Pos} {x : PySem.Str} (h : ∀ t, Q (.str x t) m M Φ) : EW c (eval (.Constant (.str x) k pos) env) m M Φ Q := EW.mk fun _ _ S => wpAny_Constant_str (Post.tok S (h _))
theorem iDiv (hb : 0 < b) (hb' : b < 2 ^ 30) (h : ∀ t, Q (.int (a.fdiv b) t) m M Φ) : EW c (binaryOp .FloorDiv (.int a t) (.int b u)) m M Φ Q := EW.mk fun _ _ S => by
  refine floordiv_int (by omega) (Post.tok S (h _)) (.inl ?_)
  unfold Builtin.divisionGoesByPylong
  have e : (b == 0) = false := beq_eq_false_iff_ne.mpr (by omega)
  have hl : b.natAbs.log2 < 30 := (Nat.log2_lt (by omega)).mpr (by omega)
  have hd : (if (b == 0) = true then 0 else b.natAbs.log2 / 30 + 1) ≤ 300 := by rw [e]; simp only [Bool.false_eq_true, if_false]; omega
  dsimp only
  rw [decide_eq_false (by omega), Bool.false_and]

-- tests
theorem isTrue_not {env : Env} {x : Expr} {pos : Pos} {whole : Sem Value} {Q : Bool → Loc → Led → Led → Prop} (h : EW c (isTrue x env (eval x env)) m M Φ (fun b => Q (!b))) : EW c (isTrue (.UnaryOp .Not x pos) env whole) m M Φ Q :=
  EW.mk fun G s S => PyProof.Rows.isTrue_not (h.run G s S)
theorem isTrue_any {env : Env} {e : Expr} {whole : Sem Value} {Q : Bool → Loc → Led → Led → Prop} (h : EW c whole m M Φ (fun v m M Φ => EW c (truthy v) m M Φ Q))
    (hp : isTrue e env whole = (do let v ← whole; standAt e.pos; holding [v] (truthy v)) := by with_unfolding_all rfl) : EW c (isTrue e env whole) m M Φ Q := EW.mk fun G _ S => isTrue_plain (h.then G S) hp
theorem isTrue_or_nil {env : Env} {pos : Pos} {whole : Sem Value} {Q : Bool → Loc → Led → Led → Prop} (h : Q false m M Φ) : EW c (isTrue (.BoolOp .Or [] pos) env whole) m M Φ Q := EW.mk fun _ _ S => PyProof.Rows.isTrue_or_nil (Post.same S h)
theorem isTrue_and_nil {env : Env} {pos : Pos} {whole : Sem Value} {Q : Bool → Loc → Led → Led → Prop} (h : Q true m M Φ) : EW c (isTrue (.BoolOp .And [] pos) env whole) m M Φ Q := EW.mk fun _ _ S => PyProof.Rows.isTrue_and_nil (Post.same S h)
theorem isTrue_or {env : Env} {x : Expr} {rest : List Expr} {pos : Pos} {whole : Sem Value} {Q : Bool → Loc → Led → Led → Prop}
    (h : EW c (isTrue x env (eval x env)) m M Φ (fun b m M Φ => if b = true then Q true m M Φ else EW c (isTrue (.BoolOp .Or rest pos) env whole) m M Φ Q)) : EW c (isTrue (.BoolOp .Or (x :: rest) pos) env whole) m M Φ Q :=
  EW.mk fun G s S => PyProof.Rows.isTrue_or (wpAny_mono (h.run G s S) (fun b s' y => by
    obtain ⟨m', M', Φ', h', tk', rfl, S', sub', q⟩ := y
    cases b with
    | true => exact ⟨m', M', Φ', h', tk', rfl, S', sub', q⟩
    | false => exact wpAny_mono (q.run G _ S') (fun _ _ x => x.trans sub') fun _ _ x => x) fun _ _ x => x)
theorem isTrue_and {env : Env} {x : Expr} {rest : List Expr} {pos : Pos} {whole : Sem Value} {Q : Bool → Loc → Led → Led → Prop}
    (h : EW c (isTrue x env (eval x env)) m M Φ (fun b m M Φ => if b = true then EW c (isTrue (.BoolOp .And rest pos) env whole) m M Φ Q else Q false m M Φ)) : EW c (isTrue (.BoolOp .And (x :: rest) pos) env whole) m M Φ Q :=
  EW.mk fun G s S => PyProof.Rows.isTrue_and (wpAny_mono (h.run G s S) (fun b s' y => by
    obtain ⟨m', M', Φ', h', tk', rfl, S', sub', q⟩ := y
    cases b with
    | false => exact ⟨m', M', Φ', h', tk', rfl, S', sub', q⟩
    | true => exact wpAny_mono (q.run G _ S') (fun _ _ x => x.trans sub') fun _ _ x => x) fun _ _ x => x)

-- lists
theorem setL {i : Nat} {l : Addr} {o : Obj} {vs : List Value} {k : Int} {u : Tok} {v : Value} {Q : Unit → Loc → Led → Led → Prop} (h1 : M[i]? = some (l, o)) (ho : LO o vs) (h0 : 0 ≤ k) (hhi : k < 1000000) (hk : k < vs.length)
    (h : ∀ o', LO o' (vs.set k.toNat v) → Q () m (M.set i (l, o')) Φ) : EW c (setItem (.ref l) (.int k u) v) m M Φ Q := EW.mk fun _ _ S =>
  wpAny_setItem_list (ho.at S (mem_of_get h1)) h0 (by omega) (by simpa using hk) fun h' hl hs => by
    obtain ⟨o', hg, hc, n, hd⟩ := hl
    exact Post.here (S.set h1 hs hg) (fun _ h => h) (h o' ⟨hc, n, by rw [hd]; simp⟩)
theorem lenL {l : Addr} {o : Obj} {vs : List Value} (h1 : (l, o) ∈ M ++ Φ) (ho : LO o vs) (hz : vs.length < 2 ^ 60) (h : ∀ t, Q (.int (vs.length : Nat) t) m M Φ) : EW c (call (.builtin "len") [.ref l]) m M Φ Q := EW.mk fun _ _ S =>
  len_list (ho.at S h1) (by simp only [List.size_toArray]; omega) (Post.tok S (by simpa using h _))
theorem newL {vs : List Value} (hz : vs.length ≤ sizeLine) (h : ∀ l, (∀ p ∈ M ++ Φ, p.1 < l) → Q (.ref l) m M ((l, lo vs 0) :: Φ)) : EW c (newList vs) m M Φ Q := EW.mk fun _ s S =>
  wpAny_newObj_type (Post.here (tk' := s.toks) (S.pushF (tk := s.toks) (lo vs 0)) (fun _ h => .tail _ h) (h _ fun p hp => S.lt hp)) (by show vs.toArray.size ≤ _; simpa using hz)
theorem newT {vs : List Value} (hz : vs.length ≤ sizeLine) (h : ∀ l, (∀ p ∈ M ++ Φ, p.1 < l) → Q (.ref l) m M ((l, tp vs 0) :: Φ)) : EW c (newTuple vs) m M Φ Q := EW.mk fun _ s S =>
  wpAny_newObj_type (Post.here (tk' := s.toks) (S.pushF (tk := s.toks) (tp vs 0)) (fun _ h => .tail _ h) (h _ fun p hp => S.lt hp)) (by show vs.toArray.size ≤ _; simpa using hz)
/-- a new list that will be changed -/
theorem newLM {vs : List Value} (hz : vs.length ≤ sizeLine) (h : ∀ l, (∀ p ∈ M ++ Φ, p.1 < l) → Q (.ref l) m ((l, lo vs 0) :: M) Φ) : EW c (newList vs) m M Φ Q := EW.mk fun _ s S =>
  wpAny_newObj_type (Post.here (tk' := s.toks) (S.pushM (tk := s.toks) (lo vs 0)) (fun _ h => h) (h _ fun p hp => S.lt hp)) (by show vs.toArray.size ≤ _; simpa using hz)
theorem Tuple_ {env : Env} {elts : List Expr} {k : Nat} {pos : Pos} (h : EW c (spliced (backTo pos (starEach elts env))) m M Φ (fun vs m M Φ => EW c (newTuple vs) m M Φ Q)) : EW c (eval (.Tuple elts k pos) env) m M Φ Q :=
  EW.mk fun G _ S => PyProof.Rows.Tuple_ (h.then G S)
theorem List_ {env : Env} {elts : List Expr} {pos : Pos} (h : EW c (spliced (backTo pos (starEach elts env))) m M Φ (fun vs m M Φ => EW c (newList vs) m M Φ Q)) : EW c (eval (.List elts pos) env) m M Φ Q :=
  EW.mk fun G _ S => PyProof.Rows.List_ (h.then G S)
theorem appL {i : Nat} {l : Addr} {vs : List Value} {n : Nat} {v : Value} (h1 : M[i]? = some (l, lo vs n)) (hz : vs.length < 2 ^ 20) (h : Q .none m (M.set i (l, lo (vs ++ [v]) (n + 1))) Φ) : EW c (call (.builtin "list.append") [.ref l, v]) m M Φ Q := EW.mk fun _ s S =>
  append_at (S.at (mem_of_get h1)) (fun h' hs hg => Post.here (tk' := s.toks) (S.set (o' := lo (vs ++ [v]) (n + 1)) h1 hs (by rw [hg]; simp)) (fun _ h => h) h) (by show vs.toArray.size ≤ _; simp only [List.size_toArray, sizeLine_eq]; omega)
theorem appM {l : Addr} {vs : List Value} {n : Nat} {pl : Sem Bool} {Q : Value × List Value → Loc → Led → Led → Prop} (h1 : (l, lo vs n) ∈ M ++ Φ) (h : Q (.builtin "list.append", [.ref l]) m M Φ) : EW c (getMethod (.ref l) "append" pl) m M Φ Q := EW.mk fun _ _ S =>
  listMethod_K S.N h1 PySem.F.slot_list_append PySem.F.type_list_append (Post.same S h)
end

end

section
-- part LzLoops

section
variable {c : Cx} {m : Loc} {M Φ : Led} {env : Env}

/-- a while, by a measure -/
theorem While_ {test : Expr} {body : List Stmt} {pos : Pos} {Q : Flow → Loc → Led → Led → Prop} (J : Nat → Loc → Led → Led → Prop) (n : Nat) (h0 : J n m M Φ)
    (step : ∀ n m M Φ', (∀ p ∈ Φ, p ∈ Φ') → J n m M Φ' → EW c (isTrue test env (eval test env)) m M Φ' (fun b m M Φ' => if b = true then
      EW c (execs body env) m M Φ' (fun f m' M' Φ'' => match f with | .next => ∃ k, k < n ∧ J k m' M' Φ'' | .cont => ∃ k, k < n ∧ J k m' M' Φ'' | .brk => Q .next m' M' Φ'' | .ret v => Q (.ret v) m' M' Φ'') else Q .next m M Φ')) :
    EW c (exec (.While test body [] pos) env) m M Φ Q := by
  refine EW.mk fun G s S => ?_
  refine wpAny_While ?_
  refine codeAny_whileLoop (fun k s' => ∃ m' M' Φ' h' tk', s' = { s with heap := h', toks := tk' } ∧ Sat c m' M' Φ' s' ∧ (∀ p ∈ Φ, p ∈ Φ') ∧ J k m' M' Φ') ?_ n ⟨m, M, Φ, s.heap, s.toks, rfl, S, fun _ h => h, h0⟩
  rintro k s' ⟨m', M', Φ', h', tk', rfl, S', sub, hJ⟩
  refine wpAny_mono ((step k m' M' Φ' sub hJ).run G _ S') (fun b s₂ x => ?_) fun _ _ x => x.elim
  obtain ⟨m₂, M₂, Φ₂, h₂, tk₂, rfl, S₂, sub₂, q⟩ := x
  cases b with
  | false =>
    have q : Q .next m₂ M₂ Φ₂ := q
    exact wpAny_execs_nil ⟨m₂, M₂, Φ₂, h₂, tk₂, rfl, S₂, fun p hp => sub₂ p (sub p hp), q⟩
  | true =>
    have q : EW c (execs body env) m₂ M₂ Φ₂ _ := q
    refine wpAny_mono (q.run G _ S₂) (fun f s₃ y => ?_) fun _ _ x => x.elim
    obtain ⟨m₃, M₃, Φ₃, h₃, tk₃, rfl, S₃, sub₃, q₃⟩ := y
    have sb : ∀ p ∈ Φ, p ∈ Φ₃ := fun p hp => sub₃ p (sub₂ p (sub p hp))
    cases f with
    | next => obtain ⟨j, hj, q₃⟩ := q₃; exact ⟨j, hj, m₃, M₃, Φ₃, h₃, tk₃, rfl, S₃, sb, q₃⟩
    | cont => obtain ⟨j, hj, q₃⟩ := q₃; exact ⟨j, hj, m₃, M₃, Φ₃, h₃, tk₃, rfl, S₃, sb, q₃⟩
    | brk => exact ⟨m₃, M₃, Φ₃, h₃, tk₃, rfl, S₃, sb, q₃⟩
    | ret v => exact ⟨m₃, M₃, Φ₃, h₃, tk₃, rfl, S₃, sb, q₃⟩

variable {cn : PySem.Str} {cs : Scope} {a : Addr} {ccd : Value} {cl : List (PySem.Str × Addr)}

theorem Sat.app {R : Led} {s : Shared} (S : Sat c m (M ++ R) Φ s) : Sat c m M Φ s := by
  refine ⟨S.F, fun p hp => S.N p ?_, ⟨?_, fun p hp q hq => S.S.2 p hp q (List.mem_append_left _ hq)⟩⟩
  · rcases List.mem_append.mp hp with h | h
    · exact List.mem_append_left _ (List.mem_append_left _ h)
    · exact List.mem_append_right _ h
  · have := S.S.1
    rw [List.map_append] at this
    exact (List.nodup_append.mp this).1

/-- one object in the mutable part's tail turns -/
theorem Sat.but {I : Addr} {oI oI' : Obj} {s : Shared} {h' : Heap} {tk : Nat} (S : Sat c m (M ++ [(I, oI)]) Φ s) (hk : ∀ b o, b ≠ I → s.heap.get? b = some o → h'.get? b = some o) (ho : h'.get? I = some oI') :
    Sat c m (M ++ [(I, oI')]) Φ { s with heap := h', toks := tk } := by
  have hI := S.N (I, oI) (List.mem_append_left _ (List.mem_append_right _ (.head _)))
  have hnd := S.S.1
  rw [List.map_append] at hnd
  have hM : ∀ p ∈ M, p.1 ≠ I := fun p hp e => (List.nodup_append.mp hnd).2.2 _ (List.mem_map_of_mem hp) _ (.head _) e
  have hP : ∀ p ∈ Φ, p.1 ≠ I := fun p hp => S.S.2 p hp (I, oI) (List.mem_append_right _ (.head _))
  refine ⟨⟨S.F.ns.at' fun o e => hk c.L o (Ne.symm hI.2.1) e, fun b o e => hk b o (fun q => by rw [q, hI.2.2] at e; cases e) (S.F.keep b o e), S.F.above⟩, fun p hp => ?_, ⟨by rw [List.map_append]; exact hnd, fun p hp q hq => ?_⟩⟩
  · rcases List.mem_append.mp hp with hp | hp
    · rcases List.mem_append.mp hp with hp | hp
      · have z := S.N p (List.mem_append_left _ (List.mem_append_left _ hp))
        exact ⟨hk _ _ (hM p hp) z.1, z.2⟩
      · cases List.mem_singleton.mp hp
        exact ⟨ho, hI.2⟩
    · have z := S.N p (List.mem_append_right _ hp)
      exact ⟨hk _ _ (hP p hp) z.1, z.2⟩
  · rcases List.mem_append.mp hq with hq | hq
    · exact S.S.2 p hp q (List.mem_append_left _ hq)
    · cases List.mem_singleton.mp hq
      exact hP p hp

/-- what a turn ends in -/
def TurnQ (Q : Flow → Loc → Led → Led → Prop) (J : Loc → Led → Led → Prop) (R : Led) (f : Flow) (m' : Loc) (M' Φ' : Led) : Prop :=
  ∃ M'', M' = M'' ++ R ∧ (match f with | .next => J m' M'' Φ' | .cont => J m' M'' Φ' | .brk => Q .next m' M'' Φ' | .ret v => Q (.ret v) m' M'' Φ')

structure Turns (c : Cx) (x : PySem.Str) (body : List Stmt) (env : Env) (Q : Flow → Loc → Led → Led → Prop) (n : Nat) (P : Nat → Value → Prop) (J : Nat → Loc → Led → Led → Prop) (m : Loc) (M Φ : Led) : Prop where
  start : J 0 m M Φ
  turn : ∀ i v m M Φ' R, i < n → P i v → (∀ p ∈ Φ, p ∈ Φ') → J i m M Φ' → EW c (execs body env) (up m x v) (M ++ R) Φ' (TurnQ Q (J (i + 1)) R)
  done : ∀ m M Φ', (∀ p ∈ Φ, p ∈ Φ') → J n m M Φ' → Q .next m M Φ'

theorem for_walk {x : PySem.Str} {px : Pos} {body : List Stmt} {Q : Flow → Loc → Led → Led → Prop} {I : Addr} {oI : Obj} {fp : List Addr} {n : Nat} {P : Nat → Value → Prop} {St : Nat → Heap → Prop} {J : Nat → Loc → Led → Led → Prop} {s : Shared}
    (W : Walks prg c.w c.A I fp [I] n P St) (hIo : ∀ i h, St i h → ∃ o, h.get? I = some o) (hfp : ∀ b ∈ fp, b = I ∨ ∃ o, (b, o) ∈ Φ ∨ c.h₀.get? b = some o)
    (hk : cs.kind = .function) (hx : (envX cn cs c.L a ccd cl).kindOf x = some .local) (G : Good c) (S : Sat c m (M ++ [(I, oI)]) Φ s) (hst : St 0 s.heap) (T : Turns c x body (envX cn cs c.L a ccd cl) Q n P J m M Φ) {E : Value → Shared → Prop} :
    codeAny (model prg c.w) c.A (.forLoop (.Name x px) (.ref I) body [] (envX cn cs c.L a ccd cl)) (fun r s' => match r with | .ok f => Post c Φ s Q f s' | .error e => E e s') s := by
  refine codeAny_forLoop (fun k s' => ∃ i m' M' Φ' oI h' tk', s' = { s with heap := h', toks := tk' } ∧ Sat c m' (M' ++ [(I, oI)]) Φ' s' ∧ St i h' ∧ (∀ p ∈ Φ, p ∈ Φ') ∧ J i m' M' Φ' ∧ i ≤ n ∧ k = n + 1 - i) ?_ (n + 1)
    ⟨0, m, M, Φ, oI, s.heap, s.toks, rfl, S, hst, fun _ h => h, T.start, Nat.zero_le _, rfl⟩
  rintro k s' ⟨i, m', M', Φ', oI, h', tk', rfl, S', hst', sub, hJ, hi, rfl⟩
  have but : ∀ h₁ : Heap, (∀ b o, b ∉ [I] → h'.get? b = some o → h₁.get? b = some o) → ∀ b o, b ≠ I → h'.get? b = some o → h₁.get? b = some o := fun h₁ hh b o hb e => hh b o (by simpa using hb) e
  by_cases hlt : i < n
  · refine W.item i _ _ _ hlt hst' fun v h₁ tk₁ hP hst₁ hk₁ => ?_
    obtain ⟨oI', hoI⟩ := hIo _ _ hst₁
    have S₁ : Sat c m' (M' ++ [(I, oI')]) Φ' { s with heap := h₁, toks := tk₁ } := S'.but (tk := tk₁) (but h₁ hk₁) hoI
    refine wpAny_assign_Name (storeX_L S₁.F S₁.N (fun h₂ F₂ N₂ => ?_) hk hx)
    have S₂ : Sat c (up m' x v) (M' ++ [(I, oI')]) Φ' { s with heap := h₂, toks := tk₁ + 1 } := ⟨F₂, N₂, S₁.S⟩
    have hst₂ : St (i + 1) h₂ := W.frame _ _ _ hst₁ fun b hb o e => by
      rcases hfp b hb with rfl | ⟨ob, hm | hm⟩
      · have z := (N₂ (b, oI') (List.mem_append_left _ (List.mem_append_right _ (.head _)))).1
        rw [hoI] at e; cases e; exact z
      · have z := (N₂ (b, ob) (List.mem_append_right _ (sub _ hm))).1
        have z' := (S₁.N (b, ob) (List.mem_append_right _ (sub _ hm))).1
        rw [show h₁.get? b = some ob from z'] at e; cases e; exact z
      · have z := F₂.keep b ob hm
        have z' := S₁.F.keep b ob hm
        rw [show h₁.get? b = some ob from z'] at e; cases e; exact z
    refine wpAny_mono ((T.turn i v m' M' Φ' [(I, oI')] hlt hP sub hJ).run G _ S₂) (fun f s₃ y => ?_) fun _ _ x => x.elim
    obtain ⟨m₃, M₃', Φ₃, h₃, tk₃, rfl, S₃, sub₃, M₃, rfl, q₃⟩ := y
    have sb : ∀ p ∈ Φ, p ∈ Φ₃ := fun p hp => sub₃ p (sub p hp)
    have hst₃ : St (i + 1) h₃ := W.frame _ _ _ hst₂ fun b hb o e => by
      rcases hfp b hb with rfl | ⟨ob, hm | hm⟩
      · have z := (S₃.N (b, oI') (List.mem_append_left _ (List.mem_append_right _ (.head _)))).1
        have z' := (N₂ (b, oI') (List.mem_append_left _ (List.mem_append_right _ (.head _)))).1
        rw [show h₂.get? b = some oI' from z'] at e; cases e; exact z
      · have z := (S₃.N (b, ob) (List.mem_append_right _ (sb _ hm))).1
        have z' := (N₂ (b, ob) (List.mem_append_right _ (sub _ hm))).1
        rw [show h₂.get? b = some ob from z'] at e; cases e; exact z
      · have z := S₃.F.keep b ob hm
        have z' := F₂.keep b ob hm
        rw [show h₂.get? b = some ob from z'] at e; cases e; exact z
    cases f with
    | next => exact ⟨n + 1 - (i + 1), by omega, i + 1, m₃, M₃, Φ₃, oI', h₃, tk₃, rfl, S₃, hst₃, sb, q₃, hlt, rfl⟩
    | cont => exact ⟨n + 1 - (i + 1), by omega, i + 1, m₃, M₃, Φ₃, oI', h₃, tk₃, rfl, S₃, hst₃, sb, q₃, hlt, rfl⟩
    | brk => exact ⟨m₃, M₃, Φ₃, h₃, tk₃, rfl, S₃.app, sb, q₃⟩
    | ret v => exact ⟨m₃, M₃, Φ₃, h₃, tk₃, rfl, S₃.app, sb, q₃⟩
  · obtain rfl : i = n := Nat.le_antisymm hi (Nat.not_lt.mp hlt)
    refine W.done _ _ _ hst' fun h₁ tk₁ hk₁ => wpAny_execs_nil ?_
    have S₀ := S'.app
    have hI := S'.N (I, oI) (List.mem_append_left _ (List.mem_append_right _ (.head _)))
    have hnd := S'.S.1
    rw [List.map_append] at hnd
    have hM : ∀ p ∈ M', p.1 ≠ I := fun p hp e => (List.nodup_append.mp hnd).2.2 _ (List.mem_map_of_mem hp) _ (.head _) e
    have hP : ∀ p ∈ Φ', p.1 ≠ I := fun p hp => S'.S.2 p hp (I, oI) (List.mem_append_right _ (.head _))
    refine ⟨m', M', Φ', h₁, tk₁, rfl, ⟨⟨S₀.F.ns.at' fun o e => but h₁ hk₁ c.L o (Ne.symm hI.2.1) e, fun b o e => but h₁ hk₁ b o (fun q => by rw [q, hI.2.2] at e; cases e) (S₀.F.keep b o e), S₀.F.above⟩, fun p hp => ?_, S₀.S⟩, sub, T.done m' M' Φ' sub hJ⟩
    refine ⟨but h₁ hk₁ _ _ ?_ (S₀.N p hp).1, (S₀.N p hp).2⟩
    rcases List.mem_append.mp hp with hp | hp
    · exact hM p hp
    · exact hP p hp

/-- where a loop's list stands: frozen, or below the frame -/
def SrcAt (c : Cx) (Φ : Led) (l : Addr) (vs : List Value) : Prop := ∃ o, LO o vs ∧ ((l, o) ∈ Φ ∨ c.h₀.get? l = some o)
theorem SrcAt.isList {l : Addr} {vs : List Value} {s : Shared} (h : SrcAt c Φ l vs) (S : Sat c m M Φ s) : s.heap.IsList l vs.toArray := by
  obtain ⟨o, ho, h | h⟩ := h
  · exact ho.at S (mem_led h)
  · exact ⟨o, S.F.keep _ _ h, ho.1, ho.2⟩
theorem SrcAt.sub {Φ' : Led} {l : Addr} {vs : List Value} (h : SrcAt c Φ l vs) (sub : ∀ p ∈ Φ, p ∈ Φ') : SrcAt c Φ' l vs := by
  obtain ⟨o, ho, h | h⟩ := h
  · exact ⟨o, ho, .inl (sub _ h)⟩
  · exact ⟨o, ho, .inr h⟩

theorem Sat.iter {s : Shared} (S : Sat c m M Φ s) (o : Obj) {tk : Nat} (hf : o.isFreed = false := by rfl) : Sat c m (M ++ [(s.heap.objs.size, o)]) Φ { s with heap := s.heap.push o, toks := tk } := by
  have S' := S.pushM (tk := tk) o hf
  refine ⟨S'.F, fun p hp => S'.N p ?_, ⟨?_, fun p hp q hq => S'.S.2 p hp q ?_⟩⟩
  · rcases List.mem_append.mp hp with hp | hp
    · rcases List.mem_append.mp hp with hp | hp
      · exact .tail _ (List.mem_append_left _ hp)
      · cases List.mem_singleton.mp hp; exact .head _
    · exact .tail _ (List.mem_append_right _ hp)
  · have := S'.S.1
    rw [List.map_cons] at this
    rw [List.map_append]
    exact List.perm_append_comm.nodup_iff.mp (by simpa using this)
  · rcases List.mem_append.mp hq with hq | hq
    · exact .tail _ hq
    · cases List.mem_singleton.mp hq; exact .head _

/-- a for over a list that stays -/
theorem For_list {x : PySem.Str} {px pos : Pos} {iter : Expr} {body : List Stmt} {Q : Flow → Loc → Led → Led → Prop}
    (h : EW c (eval iter (envX cn cs c.L a ccd cl)) m M Φ (fun v m M Φ => ∃ l vs J, v = .ref l ∧ SrcAt c Φ l vs ∧ Turns c x body (envX cn cs c.L a ccd cl) Q vs.length (fun i v => vs[i]? = some v) J m M Φ))
    (hk : cs.kind = .function := by with_unfolding_all rfl) (hx : (envX cn cs c.L a ccd cl).kindOf x = some .local := by with_unfolding_all rfl)
    (hs : ∀ x, foldedSetIterable iter (envX cn cs c.L a ccd cl) x = Pure.pure x := by intro _; with_unfolding_all rfl) :
    EW c (exec (.For (.Name x px) iter body [] pos) (envX cn cs c.L a ccd cl)) m M Φ Q := by
  refine EW.mk fun G s S => ?_
  refine wpAny_For (wpAny_mono (h.run G s S) (fun v s₁ y => ?_) fun _ _ x => x) hs
  obtain ⟨m₁, M₁, Φ₁, h₁, tk₁, rfl, S₁, sub₁, l, vs, J, rfl, hl, T⟩ := y
  have hil := hl.isList S₁
  have hlt : l < h₁.objs.size := by obtain ⟨_, e, _⟩ := hil; exact Heap.lt_size e
  refine wpAny_pyIter_list hil ?_
  have S₂ : Sat c m₁ (M₁ ++ [(h₁.objs.size, ({ cls := .type "list_iterator", data := .fields #[.ref l, .int 0 0] } : Obj))]) Φ₁ { s with heap := h₁.push { cls := .type "list_iterator", data := .fields #[.ref l, .int 0 0] }, toks := tk₁ } := S₁.iter (tk := tk₁) _
  have W : Walks prg c.w c.A h₁.objs.size [h₁.objs.size, l] [h₁.objs.size] vs.length (fun i v => vs[i]? = some v) (fun i h => h.IsListIter h₁.objs.size l i ∧ h.IsList l vs.toArray) := by
    simpa using Walks.list (prog := prg) (w := c.w) (A := c.A) G.handled h₁.objs.size l (Nat.ne_of_lt hlt) vs.toArray
  refine codeAny_mono (for_walk (n := vs.length) (P := fun i v => vs[i]? = some v) (J := J) (E := cameBackBy (model prg c.w) c.A (envX cn cs c.L a ccd cl) fun _ _ => False) W (fun i h st => by obtain ⟨o, e, _⟩ := st.1; exact ⟨o, e⟩) (fun b hb => ?_) hk hx G S₂ ⟨⟨_, Heap.get?_push_size _ rfl, rfl, rfl⟩, hil.push _⟩ T) (fun r s' y => ?_)
  · rcases List.mem_cons.mp hb with rfl | hb
    · exact .inl rfl
    · cases List.mem_singleton.mp hb
      obtain ⟨o, _, h⟩ := hl
      exact .inr ⟨o, h⟩
  · cases r with
    | ok f => exact Post.trans (h₁ := h₁) (t₁ := tk₁) sub₁ (by obtain ⟨m', M', Φ', h', tk', rfl, S', sub', q⟩ := y; exact ⟨m', M', Φ', h', tk', rfl, S', sub', q⟩)
    | error e => exact y

/-- a for over a range -/
theorem For_range {x : PySem.Str} {px pos : Pos} {iter : Expr} {body : List Stmt} {Q : Flow → Loc → Led → Led → Prop}
    (h : EW c (eval iter (envX cn cs c.L a ccd cl)) m M Φ (fun v m M Φ => ∃ r o b t u w n J, v = .ref r ∧ (r, o) ∈ Φ ∧ (∀ h : Heap, h.get? r = some o → IsRange h r 0 b 1 t u w) ∧ Builtin.Range.small 0 b 1 = true ∧ Builtin.Range.rangeSize 0 b 1 = ((n : Nat) : Int) ∧
      Turns c x body (envX cn cs c.L a ccd cl) Q n (fun i v => ∃ t, v = .int (i : Nat) t) J m M Φ))
    (hk : cs.kind = .function := by with_unfolding_all rfl) (hx : (envX cn cs c.L a ccd cl).kindOf x = some .local := by with_unfolding_all rfl)
    (hs : ∀ x, foldedSetIterable iter (envX cn cs c.L a ccd cl) x = Pure.pure x := by intro _; with_unfolding_all rfl) :
    EW c (exec (.For (.Name x px) iter body [] pos) (envX cn cs c.L a ccd cl)) m M Φ Q := by
  refine EW.mk fun G s S => ?_
  refine wpAny_For (wpAny_mono (h.run G s S) (fun v s₁ y => ?_) fun _ _ x => x) hs
  obtain ⟨m₁, M₁, Φ₁, h₁, tk₁, rfl, S₁, sub₁, r, o, b, t, u, w, n, J, rfl, hm, hr, hsm, hsz, T⟩ := y
  refine wpAny_pyIter_range (hr _ (S₁.at (mem_led hm))) hsm ?_
  have S₂ : Sat c m₁ (M₁ ++ [(h₁.objs.size, ({ cls := .type "range_iterator", data := .fields #[rawInt 0, rawInt (Builtin.Range.rangeSize 0 b 1), rawInt 1] } : Obj))]) Φ₁ { s with heap := h₁.push { cls := .type "range_iterator", data := .fields #[rawInt 0, rawInt (Builtin.Range.rangeSize 0 b 1), rawInt 1] }, toks := tk₁ } := S₁.iter (tk := tk₁) _
  have W := Walks.range (prog := prg) (w := c.w) (A := c.A) G.handled h₁.objs.size 0 1 n
  have W' : Walks prg c.w c.A h₁.objs.size [h₁.objs.size] [h₁.objs.size] n (fun i v => ∃ t, v = .int (i : Nat) t) (fun i h => IsRangeIter h h₁.objs.size (0 + (i : Nat) * 1) ((n : Int) - (i : Nat)) 1) :=
    { sub := W.sub, frame := W.frame, done := W.done, self := W.self, item := fun i s Q E hi st hQ => W.item i s Q E hi st fun v h' tk hP => hQ v h' tk (by obtain ⟨t, rfl⟩ := hP; exact ⟨t, by rw [Int.mul_one, Int.zero_add]⟩) }
  refine codeAny_mono (for_walk (n := n) (J := J) (E := cameBackBy (model prg c.w) c.A (envX cn cs c.L a ccd cl) fun _ _ => False) W' (fun i h st => ⟨_, st⟩) (fun b hb => .inl (List.mem_singleton.mp hb)) hk hx G S₂ (by show IsRangeIter _ _ _ _ _; rw [hsz]; simpa using Heap.get?_push_size _ rfl) T) (fun r s' y => ?_)
  cases r with
  | ok f => exact Post.trans (h₁ := h₁) (t₁ := tk₁) sub₁ (by obtain ⟨m', M', Φ', h', tk', rfl, S', sub', q⟩ := y; exact ⟨m', M', Φ', h', tk', rfl, S', sub', q⟩)
  | error e => exact y
end

end

section
-- part LzComp

structure CompTurns (c : Cx) (elt : Expr) (x : PySem.Str) (scope : Scope) (cl : List (PySem.Str × Addr)) (env : Env) (m : Loc) (n : Nat) (P : Nat → Value → Prop) (J : Nat → List Value → Led → Led → Prop) (M Φ : Led) : Prop where
  start : J 0 [] M Φ
  turn : ∀ i v ys M Φ' I oI C oC D m₂, i < n → P i v → (∀ p ∈ Φ, p ∈ Φ') → J i ys M Φ' → LCg.NsObj oC m₂ → m₂ x = some v →
    EW c (eval elt (compEnvC scope cl C env)) m ((I, oI) :: (C, oC) :: (D, LCg.lst ys) :: M) Φ' (fun y m' M' Φ'' => m' = m ∧ ∃ M'', M' = (I, oI) :: (C, oC) :: (D, LCg.lst ys) :: M'' ∧ J (i + 1) (ys ++ [y]) M'' Φ'')

structure CompTurnsT (c : Cx) (ct elt : Expr) (x : PySem.Str) (scope : Scope) (cl : List (PySem.Str × Addr)) (env : Env) (m : Loc) (n : Nat) (P : Nat → Value → Prop) (J : Nat → List Value → Led → Led → Prop) (M Φ : Led) : Prop where
  start : J 0 [] M Φ
  turn : ∀ i v ys M Φ' I oI C oC D m₂, i < n → P i v → (∀ p ∈ Φ, p ∈ Φ') → J i ys M Φ' → LCg.NsObj oC m₂ → m₂ x = some v →
    EW c (isTrue ct (compEnvC scope cl C env) (eval ct (compEnvC scope cl C env))) m ((I, oI) :: (C, oC) :: (D, LCg.lst ys) :: M) Φ' (fun ok m' M' Φ'' => if ok = true then
      EW c (eval elt (compEnvC scope cl C env)) m' M' Φ'' (fun y m' M' Φ'' => m' = m ∧ ∃ M'', M' = (I, oI) :: (C, oC) :: (D, LCg.lst ys) :: M'' ∧ J (i + 1) (ys ++ [y]) M'' Φ'')
      else m' = m ∧ ∃ M'', M' = (I, oI) :: (C, oC) :: (D, LCg.lst ys) :: M'' ∧ J (i + 1) ys M'' Φ'')

section
variable {c : Cx} {m : Loc} {M Φ : Led} {env : Env} {elt ct iter : Expr} {x : PySem.Str} {px : Pos} {scope : Scope} {cl : List (PySem.Str × Addr)} {n : Nat} {P : Nat → Value → Prop} {J : Nat → List Value → Led → Led → Prop}

theorem Sat.three {s : Shared} {I C D : Addr} {oI oC oD : Obj} (F : Fr c.h₀ c.L s.heap m) (N : News c.h₀ c.L s.heap ((I, oI) :: (C, oC) :: (D, oD) :: (M ++ Φ))) (S : Sep M Φ) (off : LCg.Off3 I C D (M ++ Φ)) (ne : (@Ne Nat I C) ∧ (@Ne Nat I D) ∧ (@Ne Nat C D)) :
    Sat c m ((I, oI) :: (C, oC) :: (D, oD) :: M) Φ s := by
  have o := off.mem
  refine ⟨F, N, ⟨?_, fun p hp q hq => ?_⟩⟩
  · have hM : ∀ p ∈ M, p.1 ≠ I ∧ p.1 ≠ C ∧ p.1 ≠ D := fun p hp => o p (List.mem_append_left _ hp)
    simp only [List.map_cons, List.nodup_cons, List.mem_cons, List.mem_map, not_or]
    refine ⟨⟨ne.1, ne.2.1, fun ⟨p, hp, e⟩ => (hM p hp).1 e⟩, ⟨ne.2.2, fun ⟨p, hp, e⟩ => (hM p hp).2.1 e⟩, fun ⟨p, hp, e⟩ => (hM p hp).2.2 e, S.1⟩
  · have z := o p (List.mem_append_right _ hp)
    rcases List.mem_cons.mp hq with rfl | hq
    · exact z.1
    · rcases List.mem_cons.mp hq with rfl | hq
      · exact z.2.1
      · rcases List.mem_cons.mp hq with rfl | hq
        · exact z.2.2
        · exact S.2 p hp q hq

theorem off_of {I C D : Addr} {oI oC oD : Obj} (S : Sep ((I, oI) :: (C, oC) :: (D, oD) :: M) Φ) : LCg.Off3 I C D (M ++ Φ) ∧ Sep M Φ := by
  have h1 := S.1
  simp only [List.map_cons, List.nodup_cons, List.mem_cons, List.mem_map, not_or] at h1
  refine ⟨LCg.Off3.of fun p hp => ?_, h1.2.2.2, fun p hp q hq => S.2 p hp q (.tail _ (.tail _ (.tail _ hq)))⟩
  rcases List.mem_append.mp hp with hp | hp
  · exact ⟨fun e => h1.1.2.2 ⟨p, hp, e⟩, fun e => h1.2.1.2 ⟨p, hp, e⟩, fun e => h1.2.2.1 ⟨p, hp, e⟩⟩
  · exact ⟨S.2 p hp _ (.head _), S.2 p hp _ (.tail _ (.head _)), S.2 p hp _ (.tail _ (.tail _ (.head _)))⟩

theorem comp_rest {s : Shared} {SS : Led → Prop} {Fin : List Value → Led → Prop} (G : Good c) (T : CompTurns c elt x scope cl env m n P J M Φ) (hS : ∀ M' Φ', (∀ p ∈ Φ, p ∈ Φ') → SS (M' ++ Φ'))
    (fin : ∀ ys M' Φ', (∀ p ∈ Φ, p ∈ Φ') → Sep M' Φ' → J n ys M' Φ' → Fin ys (M' ++ Φ')) :
    ∀ k i ys M' Φ', i + k = n → (∀ p ∈ Φ, p ∈ Φ') → Sep M' Φ' → J i ys M' Φ' → LCg.CompRest prg c.w c.A c.h₀ c.L m env elt x scope cl s SS P Fin k i ys (M' ++ Φ') := by
  intro k
  induction k with
  | zero =>
    intro i ys M' Φ' e sub sp hJ
    have e' : i = n := e
    subst e'
    exact fin ys M' Φ' sub sp hJ
  | succ k ih =>
    intro i ys M' Φ' e sub sp hJ v I oI C oC D m₂ h tk E' hP hC hx F N off ne
    have S₀ : Sat c m ((I, oI) :: (C, oC) :: (D, LCg.lst ys) :: M') Φ' { s with heap := h, toks := tk } := Sat.three F N sp off ne
    refine wpAny_mono ((T.turn i v ys M' Φ' I oI C oC D m₂ (by omega) hP sub hJ hC hx).run G _ S₀) (fun y s₂ z => ?_) fun _ _ x => x.elim
    obtain ⟨m₃, M₃, Φ₃, h₃, tk₃, rfl, S₃, sub₃, rfl, M₄, rfl, hJ₃⟩ := z
    obtain ⟨o₃, sp₃⟩ := off_of S₃.S
    exact LCg.CompEnd.intro S₃.F S₃.N (M₄ ++ Φ₃) (fun p hp => hp) o₃ (hS _ _ fun p hp => sub₃ p (sub p hp)) (ih (i + 1) _ M₄ Φ₃ (by omega) (fun p hp => sub₃ p (sub p hp)) sp₃ hJ₃)

theorem comp_restT {s : Shared} {SS : Led → Prop} {Fin : List Value → Led → Prop} (G : Good c) (T : CompTurnsT c ct elt x scope cl env m n P J M Φ) (hS : ∀ M' Φ', (∀ p ∈ Φ, p ∈ Φ') → SS (M' ++ Φ'))
    (fin : ∀ ys M' Φ', (∀ p ∈ Φ, p ∈ Φ') → Sep M' Φ' → J n ys M' Φ' → Fin ys (M' ++ Φ')) :
    ∀ k i ys M' Φ', i + k = n → (∀ p ∈ Φ, p ∈ Φ') → Sep M' Φ' → J i ys M' Φ' → LCt.CompRestT prg c.w c.A c.h₀ c.L m env ct elt x scope cl s SS P Fin k i ys (M' ++ Φ') := by
  intro k
  induction k with
  | zero =>
    intro i ys M' Φ' e sub sp hJ
    have e' : i = n := e
    subst e'
    exact fin ys M' Φ' sub sp hJ
  | succ k ih =>
    intro i ys M' Φ' e sub sp hJ v I oI C oC D m₂ h tk E' hP hC hx F N off ne
    have S₀ : Sat c m ((I, oI) :: (C, oC) :: (D, LCg.lst ys) :: M') Φ' { s with heap := h, toks := tk } := Sat.three F N sp off ne
    refine wpAny_mono ((T.turn i v ys M' Φ' I oI C oC D m₂ (by omega) hP sub hJ hC hx).run G _ S₀) (fun ok s₂ z => ?_) fun _ _ x => x.elim
    obtain ⟨m₃, M₃, Φ₃, h₃, tk₃, rfl, S₃, sub₃, q⟩ := z
    cases ok with
    | true =>
      have q : EW c (eval elt (compEnvC scope cl C env)) m₃ M₃ Φ₃ _ := q
      refine wpAny_mono (q.run G _ S₃) (fun y s₂ z => ?_) fun _ _ x => x.elim
      obtain ⟨m₅, M₅, Φ₅, h₅, tk₅, rfl, S₅, sub₅, rfl, M₄, rfl, hJ₅⟩ := z
      obtain ⟨o₅, sp₅⟩ := off_of S₅.S
      have sb : ∀ p ∈ Φ, p ∈ Φ₅ := fun p hp => sub₅ p (sub₃ p (sub p hp))
      exact LCg.CompEnd.intro S₅.F S₅.N (M₄ ++ Φ₅) (fun p hp => hp) o₅ (hS _ _ sb) (ih (i + 1) _ M₄ Φ₅ (by omega) sb sp₅ hJ₅)
    | false =>
      obtain ⟨rfl, M₄, rfl, hJ₃⟩ : m₃ = m ∧ ∃ M'', M₃ = (I, oI) :: (C, oC) :: (D, LCg.lst ys) :: M'' ∧ J (i + 1) ys M'' Φ₃ := q
      obtain ⟨o₃, sp₃⟩ := off_of S₃.S
      exact LCg.CompEnd.intro (y := Value.none) (rest := fun _ news' => LCt.CompRestT prg c.w c.A c.h₀ c.L m₃ env ct elt x scope cl s SS P Fin k (i + 1) ys news') S₃.F S₃.N (M₄ ++ Φ₃) (fun p hp => hp) o₃ (hS _ _ fun p hp => sub₃ p (sub p hp)) (ih (i + 1) _ M₄ Φ₃ (by omega) (fun p hp => sub₃ p (sub p hp)) sp₃ hJ₃)

theorem Sat.result {s : Shared} {D : Addr} {ys : List Value} (F : Fr c.h₀ c.L s.heap m) (N : News c.h₀ c.L s.heap ((D, LCg.lst ys) :: (M ++ Φ))) (o1 : LCg.Off1 D (M ++ Φ)) (sp : Sep M Φ) : Sat c m M ((D, lo ys ys.length) :: Φ) s := by
  have off : ∀ p ∈ M ++ Φ, p.1 ≠ D := by
    have key : ∀ l : Led, LCg.Off1 D l → ∀ p ∈ l, p.1 ≠ D := by
      intro l
      induction l with
      | nil => intro _ p hp; cases hp
      | cons q l ih =>
        intro h p hp
        rcases List.mem_cons.mp hp with rfl | hp
        · exact h.1
        · exact ih h.2 p hp
    exact key _ o1
  refine ⟨F, fun p hp => N p ?_, ⟨sp.1, fun p hp q hq => ?_⟩⟩
  · rcases List.mem_append.mp hp with hp | hp
    · exact .tail _ (List.mem_append_left _ hp)
    · rcases List.mem_cons.mp hp with rfl | hp
      · exact .head _
      · exact .tail _ (List.mem_append_right _ hp)
  · rcases List.mem_cons.mp hp with rfl | hp
    · exact Ne.symm (off q (List.mem_append_left _ hq))
    · exact sp.2 p hp q hq

/-- the comprehension's source, and what is wanted behind it -/
inductive Source (c : Cx) (Φ : Led) : Value → Nat → (Nat → Value → Prop) → Prop
  | list {l : Addr} {vs : List Value} : SrcAt c Φ l vs → vs.length ≤ 2 ^ 20 → Source c Φ (.ref l) vs.length (fun i v => vs[i]? = some v)
  | range {r : Addr} {o : Obj} {b : Int} {t u w : Tok} {n : Nat} : (r, o) ∈ Φ → (∀ h : Heap, h.get? r = some o → IsRange h r 0 b 1 t u w) → Builtin.Range.small 0 b 1 = true → Builtin.Range.rangeSize 0 b 1 = ((n : Nat) : Int) → n ≤ 2 ^ 20 →
      Source c Φ (.ref r) n (fun i v => ∃ t, v = .int (i : Nat) t)

theorem src_lcg {l : Addr} {vs : List Value} {M' Φ' : Led} (h : SrcAt c Φ l vs) (sub : ∀ p ∈ Φ, p ∈ Φ') : LCg.SrcAt c.h₀ l vs.toArray (M' ++ Φ') := by
  obtain ⟨o, ho, h | h⟩ := h
  · exact .inr ⟨o, mem_led (sub _ h), ho.1, ho.2⟩
  · exact .inl ⟨o, h, ho.1, ho.2⟩

theorem Comp_ {pos : Pos} {Q : Value → Loc → Led → Led → Prop}
    (h : EW c (eval iter env) m M Φ (fun v m₁ M₁ Φ₁ => m₁ = m ∧ ∃ n P J, Source c Φ₁ v n P ∧ CompTurns c elt x scope cl env m n P J M₁ Φ₁ ∧ ∀ ys M' Φ' D, (∀ p ∈ Φ₁, p ∈ Φ') → J n ys M' Φ' → Q (.ref D) m M' ((D, lo ys ys.length) :: Φ')))
    (hclos : closureFor scope env = Pure.pure cl) (hcell : ∀ y ∈ scope.names, y.2 ≠ .cell) (hkind : scope.kind = .function)
    (hnames : ∀ y ∈ scope.names, y.2 = .local → scope.names.lookup y.1 = some .local) (hx : scope.names.lookup x = some .local)
    (hs : ∀ x, foldedSetIterable iter env x = Pure.pure x := by intro _; with_unfolding_all rfl) :
    EW c (eval (.ListComp elt [⟨.Name x px, iter, [], 0⟩] scope pos) env) m M Φ Q := by
  refine EW.mk fun G s S => ?_
  refine LCg.ListComp_U S.F hclos hcell hkind hnames hx (wpAny_mono (h.run G s S) (fun v s₁ y => ?_) fun _ _ x => x) hs
  obtain ⟨m₁, M₁, Φ₁, h₁, tk₁, rfl, S₁, sub₁, rfl, n, P, J, src, T, fin⟩ := y
  have finE : ∀ (s₂ : Shared), (∃ h, s₂ = { s with heap := h, toks := tk₁ }) → ∀ ys M' Φ', (∀ p ∈ Φ₁, p ∈ Φ') → Sep M' Φ' → J n ys M' Φ' → LCg.FinE c.h₀ c.L m₁ s₂ (Post c Φ s Q) ys (M' ++ Φ') := by
    rintro s₂ ⟨h₂, rfl⟩ ys M' Φ' sub sp hJ D h tk F N o1
    exact ⟨m₁, M', (D, lo ys ys.length) :: Φ', h, tk, rfl, Sat.result F N o1 sp, fun p hp => .tail _ (sub p (sub₁ p hp)), fin ys M' Φ' D sub hJ⟩
  cases src with
  | @list l vs hl hz =>
    refine .inl ⟨l, vs.toArray, M₁ ++ Φ₁, rfl, G.handled, S₁.F, S₁.N, src_lcg hl fun _ h => h, by simp only [List.size_toArray, sizeLine_eq]; omega, fun s₂ hs₂ => ?_⟩
    have := comp_rest (s := s₂) (SS := LCg.SrcAt c.h₀ l vs.toArray) G T (fun M' Φ' sub => src_lcg hl sub) (finE s₂ hs₂) vs.length 0 [] M₁ Φ₁ (by omega) (fun _ h => h) S₁.S T.start
    simpa using this
  | @range r o b t u w _ hm hr hsm hsz hz =>
    exact .inr ⟨r, 0, b, t, u, w, n, M₁ ++ Φ₁, rfl, G.handled, S₁.F, S₁.N, hr _ (S₁.at (mem_led hm)), hsm, hsz, by rw [sizeLine_eq]; omega, fun s₂ hs₂ => by
      have := comp_rest (s := s₂) (SS := fun _ => True) G T (fun _ _ _ => trivial) (finE s₂ hs₂) n 0 [] M₁ Φ₁ (by omega) (fun _ h => h) S₁.S T.start
      simpa using this⟩

theorem CompT_ {pos : Pos} {Q : Value → Loc → Led → Led → Prop}
    (h : EW c (eval iter env) m M Φ (fun v m₁ M₁ Φ₁ => m₁ = m ∧ ∃ n P J, Source c Φ₁ v n P ∧ CompTurnsT c ct elt x scope cl env m n P J M₁ Φ₁ ∧ ∀ ys M' Φ' D, (∀ p ∈ Φ₁, p ∈ Φ') → J n ys M' Φ' → Q (.ref D) m M' ((D, lo ys ys.length) :: Φ')))
    (hclos : closureFor scope env = Pure.pure cl) (hcell : ∀ y ∈ scope.names, y.2 ≠ .cell) (hkind : scope.kind = .function)
    (hnames : ∀ y ∈ scope.names, y.2 = .local → scope.names.lookup y.1 = some .local) (hx : scope.names.lookup x = some .local)
    (hs : ∀ x, foldedSetIterable iter env x = Pure.pure x := by intro _; with_unfolding_all rfl) :
    EW c (eval (.ListComp elt [⟨.Name x px, iter, [ct], 0⟩] scope pos) env) m M Φ Q := by
  refine EW.mk fun G s S => ?_
  refine LCt.ListComp_T S.F hclos hcell hkind hnames hx (wpAny_mono (h.run G s S) (fun v s₁ y => ?_) fun _ _ x => x) hs
  obtain ⟨m₁, M₁, Φ₁, h₁, tk₁, rfl, S₁, sub₁, rfl, n, P, J, src, T, fin⟩ := y
  have finE : ∀ (s₂ : Shared), (∃ h, s₂ = { s with heap := h, toks := tk₁ }) → ∀ ys M' Φ', (∀ p ∈ Φ₁, p ∈ Φ') → Sep M' Φ' → J n ys M' Φ' → LCg.FinE c.h₀ c.L m₁ s₂ (Post c Φ s Q) ys (M' ++ Φ') := by
    rintro s₂ ⟨h₂, rfl⟩ ys M' Φ' sub sp hJ D h tk F N o1
    exact ⟨m₁, M', (D, lo ys ys.length) :: Φ', h, tk, rfl, Sat.result F N o1 sp, fun p hp => .tail _ (sub p (sub₁ p hp)), fin ys M' Φ' D sub hJ⟩
  cases src with
  | @list l vs hl hz =>
    refine .inl ⟨l, vs.toArray, M₁ ++ Φ₁, rfl, G.handled, S₁.F, S₁.N, src_lcg hl fun _ h => h, by simp only [List.size_toArray, sizeLine_eq]; omega, fun s₂ hs₂ => ?_⟩
    have := comp_restT (s := s₂) (SS := LCg.SrcAt c.h₀ l vs.toArray) G T (fun M' Φ' sub => src_lcg hl sub) (finE s₂ hs₂) vs.length 0 [] M₁ Φ₁ (by omega) (fun _ h => h) S₁.S T.start
    simpa using this
  | @range r o b t u w _ hm hr hsm hsz hz =>
    exact .inr ⟨r, 0, b, t, u, w, n, M₁ ++ Φ₁, rfl, G.handled, S₁.F, S₁.N, hr _ (S₁.at (mem_led hm)), hsm, hsz, by rw [sizeLine_eq]; omega, fun s₂ hs₂ => by
      have := comp_restT (s := s₂) (SS := fun _ => True) G T (fun _ _ _ => trivial) (finE s₂ hs₂) n 0 [] M₁ Φ₁ (by omega) (fun _ h => h) S₁.S T.start
      simpa using this⟩

variable {y : PySem.Str} {py : Pos}
theorem AssignComp_ {pos spos : Pos} {Q : Flow → Loc → Led → Led → Prop} (hL : env.locals = c.L)
    (h : EW c (eval iter env) m M Φ (fun v m₁ M₁ Φ₁ => m₁ = m ∧ ∃ n P J, Source c Φ₁ v n P ∧ CompTurns c elt x scope cl env m n P J M₁ Φ₁ ∧ ∀ ys M' Φ' D, (∀ p ∈ Φ₁, p ∈ Φ') → J n ys M' Φ' → Q .next (up m y (.ref D)) M' ((D, lo ys ys.length) :: Φ')))
    (hsw : swapsWith (.ListComp elt [⟨.Name x px, iter, [], 0⟩] scope pos) (some (.Name y py)) spos.line env = Pure.pure true)
    (hclos : closureFor scope env = Pure.pure cl) (hcell : ∀ y ∈ scope.names, y.2 ≠ .cell) (hkind : scope.kind = .function)
    (hnames : ∀ y ∈ scope.names, y.2 = .local → scope.names.lookup y.1 = some .local) (hx : scope.names.lookup x = some .local)
    (hy : env.kindOf y = some .local) (hp : (env.scope.kind == .class || (env.scope.kind == .module && env.locals != env.globals)) = false)
    (hs : ∀ x, foldedSetIterable iter env x = Pure.pure x := by intro _; with_unfolding_all rfl) :
    EW c (exec (.Assign [.Name y py] (.ListComp elt [⟨.Name x px, iter, [], 0⟩] scope pos) spos) env) m M Φ Q := by
  refine EW.mk fun G s S => ?_
  refine LCg.Assign_ListComp_U S.F hL hsw hclos hcell hkind hnames hx hy hp (wpAny_mono (h.run G s S) (fun v s₁ yy => ?_) fun _ _ x => x) hs
  obtain ⟨m₁, M₁, Φ₁, h₁, tk₁, rfl, S₁, sub₁, rfl, n, P, J, src, T, fin⟩ := yy
  have finE : ∀ (s₂ : Shared), (∃ h, s₂ = { s with heap := h, toks := tk₁ }) → ∀ ys M' Φ', (∀ p ∈ Φ₁, p ∈ Φ') → Sep M' Φ' → J n ys M' Φ' → LCg.FinA c.h₀ c.L m₁ s₂ y (Post c Φ s Q) ys (M' ++ Φ') := by
    rintro s₂ ⟨h₂, rfl⟩ ys M' Φ' sub sp hJ D h tk F N o1
    exact ⟨_, M', (D, lo ys ys.length) :: Φ', h, tk, rfl, Sat.result F N o1 sp, fun p hp => .tail _ (sub p (sub₁ p hp)), fin ys M' Φ' D sub hJ⟩
  cases src with
  | @list l vs hl hz =>
    refine .inl ⟨l, vs.toArray, M₁ ++ Φ₁, rfl, G.handled, S₁.F, S₁.N, src_lcg hl fun _ h => h, by simp only [List.size_toArray, sizeLine_eq]; omega, fun s₂ hs₂ => ?_⟩
    have := comp_rest (s := s₂) (SS := LCg.SrcAt c.h₀ l vs.toArray) G T (fun M' Φ' sub => src_lcg hl sub) (finE s₂ hs₂) vs.length 0 [] M₁ Φ₁ (by omega) (fun _ h => h) S₁.S T.start
    simpa using this
  | @range r o b t u w _ hm hr hsm hsz hz =>
    exact .inr ⟨r, 0, b, t, u, w, n, M₁ ++ Φ₁, rfl, G.handled, S₁.F, S₁.N, hr _ (S₁.at (mem_led hm)), hsm, hsz, by rw [sizeLine_eq]; omega, fun s₂ hs₂ => by
      have := comp_rest (s := s₂) (SS := fun _ => True) G T (fun _ _ _ => trivial) (finE s₂ hs₂) n 0 [] M₁ Φ₁ (by omega) (fun _ h => h) S₁.S T.start
      simpa using this⟩
theorem AssignCompT_ {pos spos : Pos} {Q : Flow → Loc → Led → Led → Prop} (hL : env.locals = c.L)
    (h : EW c (eval iter env) m M Φ (fun v m₁ M₁ Φ₁ => m₁ = m ∧ ∃ n P J, Source c Φ₁ v n P ∧ CompTurnsT c ct elt x scope cl env m n P J M₁ Φ₁ ∧ ∀ ys M' Φ' D, (∀ p ∈ Φ₁, p ∈ Φ') → J n ys M' Φ' → Q .next (up m y (.ref D)) M' ((D, lo ys ys.length) :: Φ')))
    (hsw : swapsWith (.ListComp elt [⟨.Name x px, iter, [ct], 0⟩] scope pos) (some (.Name y py)) spos.line env = Pure.pure true)
    (hclos : closureFor scope env = Pure.pure cl) (hcell : ∀ y ∈ scope.names, y.2 ≠ .cell) (hkind : scope.kind = .function)
    (hnames : ∀ y ∈ scope.names, y.2 = .local → scope.names.lookup y.1 = some .local) (hx : scope.names.lookup x = some .local)
    (hy : env.kindOf y = some .local) (hp : (env.scope.kind == .class || (env.scope.kind == .module && env.locals != env.globals)) = false)
    (hs : ∀ x, foldedSetIterable iter env x = Pure.pure x := by intro _; with_unfolding_all rfl) :
    EW c (exec (.Assign [.Name y py] (.ListComp elt [⟨.Name x px, iter, [ct], 0⟩] scope pos) spos) env) m M Φ Q := by
  refine EW.mk fun G s S => ?_
  refine LCt.Assign_ListComp_T S.F hL hsw hclos hcell hkind hnames hx hy hp (wpAny_mono (h.run G s S) (fun v s₁ yy => ?_) fun _ _ x => x) hs
  obtain ⟨m₁, M₁, Φ₁, h₁, tk₁, rfl, S₁, sub₁, rfl, n, P, J, src, T, fin⟩ := yy
  have finE : ∀ (s₂ : Shared), (∃ h, s₂ = { s with heap := h, toks := tk₁ }) → ∀ ys M' Φ', (∀ p ∈ Φ₁, p ∈ Φ') → Sep M' Φ' → J n ys M' Φ' → LCg.FinA c.h₀ c.L m₁ s₂ y (Post c Φ s Q) ys (M' ++ Φ') := by
    rintro s₂ ⟨h₂, rfl⟩ ys M' Φ' sub sp hJ D h tk F N o1
    exact ⟨_, M', (D, lo ys ys.length) :: Φ', h, tk, rfl, Sat.result F N o1 sp, fun p hp => .tail _ (sub p (sub₁ p hp)), fin ys M' Φ' D sub hJ⟩
  cases src with
  | @list l vs hl hz =>
    refine .inl ⟨l, vs.toArray, M₁ ++ Φ₁, rfl, G.handled, S₁.F, S₁.N, src_lcg hl fun _ h => h, by simp only [List.size_toArray, sizeLine_eq]; omega, fun s₂ hs₂ => ?_⟩
    have := comp_restT (s := s₂) (SS := LCg.SrcAt c.h₀ l vs.toArray) G T (fun M' Φ' sub => src_lcg hl sub) (finE s₂ hs₂) vs.length 0 [] M₁ Φ₁ (by omega) (fun _ h => h) S₁.S T.start
    simpa using this
  | @range r o b t u w _ hm hr hsm hsz hz =>
    exact .inr ⟨r, 0, b, t, u, w, n, M₁ ++ Φ₁, rfl, G.handled, S₁.F, S₁.N, hr _ (S₁.at (mem_led hm)), hsm, hsz, by rw [sizeLine_eq]; omega, fun s₂ hs₂ => by
      have := comp_restT (s := s₂) (SS := fun _ => True) G T (fun _ _ _ => trivial) (finE s₂ hs₂) n 0 [] M₁ Φ₁ (by omega) (fun _ h => h) S₁.S T.start
      simpa using this⟩
end

-- names within a comprehension
section
variable {c : Cx} {m : Loc} {M Φ : Led} {env : Env} {scope : Scope} {cl : List (PySem.Str × Addr)} {x : PySem.Str} {pos : Pos} {v : Value} {Q : Value → Loc → Led → Led → Prop}
theorem nCL {C : Addr} {oC : Obj} {m₂ : Loc} (hm : (C, oC) ∈ M ++ Φ) (hC : LCg.NsObj oC m₂) (hv : m₂ x = some v) (h : Q v m M Φ) (hk : (compEnvC scope cl C env).scope.kind = .function := by with_unfolding_all rfl)
    (hx : (compEnvC scope cl C env).kindOf x = some .local := by with_unfolding_all rfl) (hb : (x == ("__debug__" : PySem.Str)) = false := by with_unfolding_all decide) : EW c (eval (.Name x pos) (compEnvC scope cl C env)) m M Φ Q := EW.mk fun _ _ S =>
  wpAny_Name (wpAny_loadName_local hk hx (hC.ns (S.at hm)) hv (Post.same S h)) hb
theorem nCC {C b : Addr} {o : Obj} (hc : cl.lookup x = some b) (hm : (b, o) ∈ M ++ Φ) (hd : o.data = .cell (some v)) (h : Q v m M Φ) (hk : (compEnvC scope cl C env).scope.kind = .function := by with_unfolding_all rfl)
    (hx : (compEnvC scope cl C env).kindOf x = some .cell := by with_unfolding_all rfl) (hb : (x == ("__debug__" : PySem.Str)) = false := by with_unfolding_all decide) : EW c (eval (.Name x pos) (compEnvC scope cl C env)) m M Φ Q := EW.mk fun _ _ S =>
  wpAny_Name (wpAny_loadName_cell hk hx hc ⟨o, S.at hm, hd⟩ (Post.same S h)) hb
end

end

section
-- part LzPrim3

/-- a call of a def some of whose parameters are captured by a comprehension -/
theorem cells_addr {cm : Loc} : ∀ {cs : List (PySem.Str × Addr)} {cells : Led}, CellsAre cm cs cells → ∀ p ∈ cells, ∃ x ∈ cs, p.1 = x.2
  | _, _, .nil, p, hp => nomatch hp
  | _, _, .cons (n := n) (c := c) _ r, p, hp => by
    rcases List.mem_cons.mp hp with rfl | hp
    · exact ⟨(n, c), .head _, rfl⟩
    · obtain ⟨x, hx, e⟩ := cells_addr r p hp
      exact ⟨x, .tail _ hx, e⟩

section
variable {c : Cx} {m : Loc} {M Φ : Led}

theorem call_defC {f : Addr} {args : List Value} {oc : Value} {od : Option Addr} {name qual : PySem.Str} {params : Arguments} {body : List Stmt} {scope : Scope} {dV kV doc pm cdv ct : Value} {an : Option Addr} {osl : Array (Option Value)} {binds : List (PySem.Str × Value)} {Q : Value → Loc → Led → Led → Prop}
    {cl : Addr → List (PySem.Str × Addr)}
    (ho : List.lookup f (hd.heap_39 c.w.params) = some ⟨oc, od, .func (fnOf name qual params body scope dV kV doc pm an cdv ct), osl⟩) (hcd : codeIn (hd.heap_39 c.w.params) cdv qual = true) (hn : 1 ≤ c.n)
    (hbind : bindArgs (fnOf name qual params body scope dV kV doc pm an cdv ct) ⟨args, []⟩ = pure binds) (hkind : (binds.all fun y => scope.names.lookup y.1 == some .local || scope.names.lookup y.1 == some .cell) = true)
    (hnd : ((cellsFrom 0 scope.names []).map (·.1)).Nodup) (hcl : ∀ L, cellsFrom (L + 1) scope.names [] = cl L) (hge : ∀ L, ∀ x ∈ cl L, @LT.lt Nat _ L x.2)
    (hco : scope.isCoroutine = false) (hgen : scope.isGenerator = false) (hk : scope.kind = .function)
    (h : ∀ (c' : Cx) cells, c'.w = c.w → c'.n = c.n - 1 → CellsAre (bindC (envX qual scope c'.L f cdv (cl c'.L)).kindOf binds fun _ => none) (cl c'.L) cells →
      EW c' (execs body (envX qual scope c'.L f cdv (cl c'.L))) (bindL (envX qual scope c'.L f cdv (cl c'.L)).kindOf binds fun _ => none) M (cells ++ Φ) (fun fl _ M' Φ' => Q (match fl with | .ret v => v | _ => .none) m M' Φ')) :
    EW c (call (.ref f) args) m M Φ Q := by
  refine EW.mk fun G s S => ?_
  obtain ⟨p, l, mean, mg, mb, T⟩ := G.top
  obtain ⟨A₀, base, outer, B, hA⟩ := G.below
  refine wpAny_call (code_defC B S.F G.kin S.N T hA G.frame G.kind ho hcd (by have := G.room; omega) (BindsTo.of_eq hbind) hkind hnd (fun g L' h₁ tk cells FG F' N' Y B' X' T' hlt => ?_) hco hgen hk)
  have e : envOfC qual scope L' f cdv = envX qual scope L' f cdv (cl L') := by rw [← hcl L']; rfl
  have hc2 : cellsFrom (L' + 1) scope.names [] = cl L' := hcl L'
  rw [e] at F' Y ⊢
  rw [hc2] at Y
  have G' : Good (callee c g L' (envX qual scope L' f cdv (cl L'))) := G.deeper hn B' X' ⟨_, _, _, _, _, T'⟩ rfl hk
  have S' : Sat (callee c g L' (envX qual scope L' f cdv (cl L'))) (bindL (envX qual scope L' f cdv (cl L')).kindOf binds fun _ => none) M (cells ++ Φ) { s with heap := h₁, toks := tk } := by
    have hca : ∀ p ∈ cells, @LT.lt Nat _ L' p.1 := fun p hp => by
      obtain ⟨x, hx, e⟩ := cells_addr Y p hp
      rw [e]; exact hge L' x hx
    refine ⟨F', fun p hp => N' p ?_, ⟨S.S.1, fun p hp q hq => ?_⟩⟩
    · rcases List.mem_append.mp hp with hp | hp
      · exact List.mem_append_right _ (List.mem_append_left _ hp)
      · rcases List.mem_append.mp hp with hp | hp
        · exact List.mem_append_left _ hp
        · exact List.mem_append_right _ (List.mem_append_right _ hp)
    · rcases List.mem_append.mp hp with hp | hp
      · have h1 : @LT.lt Nat _ q.1 L' := hlt q (List.mem_append_left _ hq)
        exact Nat.ne_of_gt (Nat.lt_trans h1 (hca p hp))
      · exact S.S.2 p hp q hq
  refine wpAny_mono ((h (callee c g L' (envX qual scope L' f cdv (cl L'))) cells rfl rfl Y).run G' _ S') (fun fl s' x => ?_) fun _ _ x => x.elim
  obtain ⟨m', M', Φ', h', tk', rfl, S₂, sub, q⟩ := x
  exact ⟨L', m', M' ++ Φ', S₂.F, S₂.N, fun F'' N'' => ⟨m, M', Φ', h', tk', rfl, ⟨F'', N'', S₂.S⟩, fun p hp => sub p (List.mem_append_right _ hp), q⟩⟩

-- dicts with int keys
def DO (w : World) (d : Addr) (o : Obj) (kvs : List (Int × Value)) : Prop := (d == sysModules) = false ∧ o.IsDictOf (intKind prg w) kvs
theorem DO.at {s : Shared} {d : Addr} {o : Obj} {kvs : List (Int × Value)} (h : DO c.w d o kvs) (S : Sat c m M Φ s) (hm : (d, o) ∈ M ++ Φ) : Heap.DictOf (intKind prg c.w) s.heap d kvs := Heap.dictOf_iff.mpr ⟨o, S.at hm, h.2⟩

theorem xD {value slice : Expr} {d : Addr} {o : Obj} {kvs : List (Int × Value)} {k : Int} {u : Tok} {v : Value} {Q : Value → Loc → Led → Led → Prop} (h1 : (d, o) ∈ M ++ Φ) (ho : DO c.w d o kvs) (hx : valueAt kvs k = some v) (h : Q v m M Φ)
    (hs : subscripted slice false (.ref d) (.int k u) = operate [.ref d, .int k u] (getItem (.ref d) (.int k u)) := by with_reducible first | exact sub_const | exact sub_name | exact sub_sub | exact sub_attr | exact sub_call) : EW c (subscriptTail value slice (.ref d) (.int k u)) m M Φ Q := EW.mk fun _ _ S =>
  tail_any (ho.at S h1).typeIs slot_dict_getitem.lookup (wpAny_getItem_of (intKind_is prg c.w k u) (ho.at S h1).mapOf hx (Post.tok S h)) hs
theorem inD {d : Addr} {o : Obj} {kvs : List (Int × Value)} {k : Int} {u : Tok} {Q : Value → Loc → Led → Led → Prop} (h1 : (d, o) ∈ M ++ Φ) (ho : DO c.w d o kvs) (h : Q (.bool (valueAt kvs k).isSome) m M Φ) : EW c (compareOp .In (.int k u) (.ref d)) m M Φ Q := EW.mk fun _ _ S =>
  wpAny_in_of (intKind_is prg c.w k u) ho.1 (ho.at S h1).mapOf (Post.tok S h)
theorem notInD {d : Addr} {o : Obj} {kvs : List (Int × Value)} {k : Int} {u : Tok} {Q : Value → Loc → Led → Led → Prop} (h1 : (d, o) ∈ M ++ Φ) (ho : DO c.w d o kvs) (h : Q (.bool !(valueAt kvs k).isSome) m M Φ) : EW c (compareOp .NotIn (.int k u) (.ref d)) m M Φ Q := EW.mk fun _ _ S =>
  wpAny_notIn_of (intKind_is prg c.w k u) ho.1 (ho.at S h1).mapOf (Post.tok S h)
theorem setD {i : Nat} {d : Addr} {o : Obj} {kvs : List (Int × Value)} {k : Int} {u : Tok} {v : Value} {Q : Unit → Loc → Led → Led → Prop} (h1 : M[i]? = some (d, o)) (ho : DO c.w d o kvs) (hz : kvs.length ≤ 2 ^ 20)
    (h : ∀ o', DO c.w d o' (stored kvs k v) → Q () m (M.set i (d, o')) Φ) : EW c (setItem (.ref d) (.int k u) v) m M Φ Q := EW.mk fun _ _ S =>
  wpAny_setItem_pairs (intKind_is prg c.w k u) (ho.at S (mem_of_get h1)) (fun h' hm hs => by
    obtain ⟨o', hg, hd⟩ := Heap.dictOf_iff.mp hm
    exact Post.here (S.set h1 hs hg) (fun _ h => h) (h o' ⟨ho.1, hd⟩)) (by rw [sizeLine_eq]; omega)
theorem lenD {d : Addr} {o : Obj} {kvs : List (Int × Value)} {Q : Value → Loc → Led → Led → Prop} (h1 : (d, o) ∈ M ++ Φ) (ho : DO c.w d o kvs) (hz : kvs.length ≤ 2 ^ 20) (h : ∀ t, Q (.int (kvs.length : Nat) t) m M Φ) : EW c (call (.builtin "len") [.ref d]) m M Φ Q := EW.mk fun _ _ S =>
  call_len_dict ho.1 (ho.at S h1) (by omega) (Post.tok S (h _))
theorem newD {env : Env} {pos : Pos} {Q : Value → Loc → Led → Led → Prop} (h : ∀ d o, DO c.w d o [] → (∀ p ∈ M ++ Φ, p.1 < d) → Q (.ref d) m ((d, o) :: M) Φ) : EW c (eval (.Dict [] [] pos) env) m M Φ Q := EW.mk fun G s S => by
  obtain ⟨p, l, mean, mg, mb, T⟩ := G.top
  refine Dict_empty_made (intKind prg c.w) PyData.int S.F S.N (modules_low T.nolimit) fun h' o F' N' hs hd hf hne => ?_
  refine Post.here (m' := m) ⟨F', N', ⟨?_, fun p hp q hq => ?_⟩⟩ (fun _ h => h) (h _ o ⟨hs, hd⟩ fun p hp => S.lt hp)
  · rw [List.map_cons, List.nodup_cons]
    refine ⟨fun hh => ?_, S.S.1⟩
    obtain ⟨q, hq, e⟩ := List.mem_map.mp hh
    exact Nat.ne_of_lt (S.lt (List.mem_append_left _ hq)) e
  · rcases List.mem_cons.mp hq with rfl | hq
    · exact Nat.ne_of_lt (S.lt (List.mem_append_right _ hp))
    · exact S.S.2 p hp q hq

-- data
variable {Q : Value → Loc → Led → Led → Prop}
theorem dEq {a b : Value} {d e : Dat} {n₁ n₂ : Led} (Da : DatIn n₁ a d) (sa : ∀ p ∈ n₁, p ∈ M ++ Φ) (Db : DatIn n₂ b e) (sb : ∀ p ∈ n₂, p ∈ M ++ Φ) (ha : kqdOk 9 d = true) (hb : kqdOk 9 e = true) (h : ∀ x : Bool, (x = true ↔ d = e) → Q (.bool x) m M Φ) : EW c (compareOp .Eq a b) m M Φ Q := EW.mk fun G s S => by
  obtain ⟨as, ra⟩ := kqd_in S.N 9 (Da.mono sa) ha
  obtain ⟨bs, rb⟩ := kqd_in S.N 9 (Db.mono sb) hb
  have la := kqd_lay 9 d ha
  have lb := kqd_lay 9 e hb
  refine eq_dataH ra rb ?_ ?_ (by have := G.units; omega) (Post.same S (h _ (kqd_eqv 9 d e 9 ha hb)))
  · unfold SeqAt.shaped; rw [la.1, Bool.true_and]; exact decide_eq_true (Nat.le_trans la.2 (by decide))
  · unfold SeqAt.shaped; rw [lb.1, Bool.true_and]; exact decide_eq_true (Nat.le_trans lb.2 (by decide))
theorem dNe {a b : Value} {d e : Dat} {n₁ n₂ : Led} (Da : DatIn n₁ a d) (sa : ∀ p ∈ n₁, p ∈ M ++ Φ) (Db : DatIn n₂ b e) (sb : ∀ p ∈ n₂, p ∈ M ++ Φ) (ha : kqdOk 9 d = true) (hb : kqdOk 9 e = true) (h : ∀ x : Bool, (x = true ↔ d ≠ e) → Q (.bool x) m M Φ) : EW c (compareOp .NotEq a b) m M Φ Q := EW.mk fun G s S => by
  obtain ⟨as, ra⟩ := kqd_in S.N 9 (Da.mono sa) ha
  obtain ⟨bs, rb⟩ := kqd_in S.N 9 (Db.mono sb) hb
  have la := kqd_lay 9 d ha
  have lb := kqd_lay 9 e hb
  refine ne_dataH ra rb ?_ ?_ (by have := G.units; omega) (Post.same S (h _ ?_))
  · unfold SeqAt.shaped; rw [la.1, Bool.true_and]; exact decide_eq_true (Nat.le_trans la.2 (by decide))
  · unfold SeqAt.shaped; rw [lb.1, Bool.true_and]; exact decide_eq_true (Nat.le_trans lb.2 (by decide))
  · have z := kqd_eqv 9 d e 9 ha hb
    rw [Bool.not_eq_true', Bool.eq_false_iff, Ne, z]
theorem dIn {x l : Addr} {v : Value} {d : Dat} {o : Obj} {vs : List Value} {ds : List Dat} {n₁ n₂ : Led} (h1 : (l, o) ∈ M ++ Φ) (ho : LO o vs) (Da : DatAll n₁ vs ds) (sa : ∀ p ∈ n₁, p ∈ M ++ Φ) (Dx : DatIn n₂ v d) (sx : ∀ p ∈ n₂, p ∈ M ++ Φ) (ha : ∀ d ∈ ds, kqdOk 8 d = true) (hd : kqdOk 8 d = true)
    (h : ∀ x : Bool, (x = true ↔ d ∈ ds) → Q (.bool x) m M Φ) : EW c (compareOp .In v (.ref l)) m M Φ Q := EW.mk fun G s S => by
  obtain ⟨hc, n, hdat⟩ := ho
  refine kqd_isIn S.N h1 hc hdat Da sa Dx sx ha hd (by have := G.units; omega) (Post.same S (h _ ?_))
  simp
theorem dNotIn {l : Addr} {v : Value} {d : Dat} {o : Obj} {vs : List Value} {ds : List Dat} {n₁ n₂ : Led} (h1 : (l, o) ∈ M ++ Φ) (ho : LO o vs) (Da : DatAll n₁ vs ds) (sa : ∀ p ∈ n₁, p ∈ M ++ Φ) (Dx : DatIn n₂ v d) (sx : ∀ p ∈ n₂, p ∈ M ++ Φ) (ha : ∀ d ∈ ds, kqdOk 8 d = true) (hd : kqdOk 8 d = true)
    (h : ∀ x : Bool, (x = true ↔ d ∉ ds) → Q (.bool x) m M Φ) : EW c (compareOp .NotIn v (.ref l)) m M Φ Q := EW.mk fun G s S => by
  obtain ⟨hc, n, hdat⟩ := ho
  refine kqd_notIn S.N h1 hc hdat Da sa Dx sx ha hd (by have := G.units; omega) (Post.same S (h _ ?_))
  simp

-- texts
theorem sAdd {x y : PySem.Str} {t u : Tok} (h : ∀ t, Q (.str (x ++ y) t) m M Φ) (hz : x.length + y.length ≤ sizeLine) : EW c (binaryOp .Add (.str x t) (.str y u)) m M Φ Q := EW.mk fun _ _ S => add_str (fun _ _ => Post.tok S (h _)) hz
theorem strInt {a : Int} {t : Tok} (hz : a.natAbs.log2 < 1920) (h : ∀ t, Q (.str (PySem.Str.ofString (toString a)) t) m M Φ) : EW c (call (.type "str") [.int a t]) m M Φ Q := EW.mk fun _ _ S => P.str_of_int hz (Post.tok S (h _))
theorem min2 {a b : Int} {t u : Tok} (h : ∀ t, Q (.int (if b < a then b else a) t) m M Φ) : EW c (call (.builtin "min") [.int a t, .int b u]) m M Φ Q := EW.mk fun G _ S => min_two_N G.handled S.F S.N fun h' tk F N => Post.here (S.frm F N) (fun _ h => h) (h _)
theorem iPow {a n : Int} {t u : Tok} (hn : 0 ≤ n) (hn2 : n ≤ 1000000) (ha : a.natAbs < 2 ^ 64) (h : ∀ t, Q (.int (a ^ n.toNat) t) m M Φ) : EW c (binaryOp .Pow (.int a t) (.int n u)) m M Φ Q := EW.mk fun _ _ S => pow_int_small hn hn2 ha (Post.tok S (h _))
/-- a new range, frozen -/
theorem newR {n : Int} {t : Tok} (h : ∀ r o t' u' v', (∀ h : Heap, h.get? r = some o → IsRange h r 0 n 1 t' u' v') → Q (.ref r) m M ((r, o) :: Φ)) : EW c (call (.type "range") [.int n t]) m M Φ Q := EW.mk fun _ s S =>
  call_range_1 (Post.here (tk' := s.toks + 1 + 1) (S.pushF (tk := s.toks + 1 + 1) { cls := .type "range", data := .fields #[.int 0 s.toks, .int n t, .int 1 (s.toks + 1)] }) (fun _ h => .tail _ h) (h _ _ s.toks t (s.toks + 1) fun h e => e))
theorem small1 {b : Int} (h0 : 0 ≤ b) (h1 : b ≤ 2 ^ 20) : Builtin.Range.small 0 b 1 = true ∧ Builtin.Range.rangeSize 0 b 1 = ((b.toNat : Nat) : Int) := by
  constructor
  · exact small_one (by decide) (by decide) (by omega) (by omega)
  · rw [rangeSize_one]; split <;> omega
/-- list(xs) of a list: a new list, kept apart (mutable) or frozen -/
theorem copyL {l : Addr} {vs : List Value} (h1 : SrcAt c Φ l vs) (hz : vs.length ≤ 2 ^ 20) (h : ∀ D n, (∀ p ∈ M ++ Φ, p.1 < D) → Q (.ref D) m ((D, lo vs n) :: M) Φ) : EW c (call (.type "list") [.ref l]) m M Φ Q := EW.mk fun _ s S =>
  list_copyK S.F S.N (h1.isList S) (fun D n h' F N hlt => Post.here (tk' := s.toks) (m' := m) ⟨F, N, ⟨by
    rw [List.map_cons, List.nodup_cons]
    refine ⟨fun hh => ?_, S.S.1⟩
    obtain ⟨q, hq, e⟩ := List.mem_map.mp hh
    exact Nat.ne_of_lt (hlt q (List.mem_append_left _ hq)) e, fun p hp q hq => by
    rcases List.mem_cons.mp hq with rfl | hq
    · exact Nat.ne_of_lt (hlt p (List.mem_append_right _ hp))
    · exact S.S.2 p hp q hq⟩⟩ (fun _ h => h) (h D n hlt)) (by simp only [List.size_toArray, sizeLine_eq]; omega)
/-- xs + ys: a new list, mutable -/
theorem addL {l b : Addr} {o₁ o₂ : Obj} {vs us : List Value} (h1 : (l, o₁) ∈ M ++ Φ) (e1 : LO o₁ vs) (h2 : (b, o₂) ∈ M ++ Φ) (e2 : LO o₂ us) (hz : vs.length + us.length ≤ 2 ^ 20) (h : ∀ D, (∀ p ∈ M ++ Φ, p.1 < D) → Q (.ref D) m ((D, lo (vs ++ us) 0) :: M) Φ) :
    EW c (binaryOp .Add (.ref l) (.ref b)) m M Φ Q := EW.mk fun _ s S =>
  add_arrays S.F S.N (e1.at S h1) (e2.at S h2) (fun h' F N => Post.here (tk' := s.toks) (m' := m) ⟨F, fun p hp => N p (by simpa using hp), ⟨by
    rw [List.map_cons, List.nodup_cons]
    refine ⟨fun hh => ?_, S.S.1⟩
    obtain ⟨q, hq, e⟩ := List.mem_map.mp hh
    exact Nat.ne_of_lt (S.lt (List.mem_append_left _ hq)) e, fun p hp q hq => by
    rcases List.mem_cons.mp hq with rfl | hq
    · exact Nat.ne_of_lt (S.lt (List.mem_append_right _ hp))
    · exact S.S.2 p hp q hq⟩⟩ (fun _ h => h) (h _ fun p hp => S.lt hp)) (by simp only [List.size_toArray, sizeLine_eq]; omega)
/-- pop of a list of ints -/
theorem popL {i : Nat} {D : Addr} {us : List Value} {l : List Int} {n : Nat} (h1 : M[i]? = some (D, lo us n)) (hi : IntsAre us l) (hp : 0 < us.length) (hz : us.length ≤ 2 ^ 20) (h : ∀ t, IntsAre us.dropLast l.dropLast → Q (.int (l.getLastD 0) t) m (M.set i (D, lo us.dropLast (n + 1))) Φ) :
    EW c (call (.builtin "list.pop") [.ref D]) m M Φ Q := EW.mk fun _ s S =>
  kpa_pop S.F S.N (upd_of S.S h1) hi hp (by rw [sizeLine_eq]; omega) fun h' t F N hi' => Post.here (tk' := s.toks) (m' := m) ⟨F, N, S.S.set h1⟩ (fun _ h => h) (h t hi')
theorem popM {l : Addr} {vs : List Value} {n : Nat} {pl : Sem Bool} {Q : Value × List Value → Loc → Led → Led → Prop} (h1 : (l, lo vs n) ∈ M ++ Φ) (h : Q (.builtin "list.pop", [.ref l]) m M Φ) : EW c (getMethod (.ref l) "pop" pl) m M Φ Q := EW.mk fun _ _ S =>
  kl_method S.N h1 PySem.F.slot_list_pop PySem.F.type_list_pop (Post.same S h)
/-- isinstance of an own object against an own class -/
theorem isi {x D dx C : Addr} {es : List DictEntry} {n : Nat} {b : Bool} (h1 : (x, instObj D dx) ∈ M ++ Φ) (h2 : (dx, dictOf es n) ∈ M ++ Φ)
    (k1 : plainGet (hd.heap_39 c.w.params) D "__class__" = true) (k2 : hasDictIn (hd.heap_39 c.w.params) D = true) (k3 : findIn (hd.heap_39 c.w.params) (.ref D) "__class__" = some (some (.builtin "object.__class__")))
    (k4 : specialIn (hd.heap_39 c.w.params) (.builtin "object.__class__") "__get__" = some (some (.builtin "getset_descriptor.__get__"))) (k5 : takesIn (hd.heap_39 c.w.params) (.builtin "object.__class__") = some true) (k6 : mroIn (hd.heap_39 c.w.params) D (.type "object") = some true)
    (k7 : kitOne (hd.heap_39 c.w.params) (.ref D) (.ref C) = some b) (h : Q (.bool b) m M Φ) : EW c (call (.builtin "isinstance") [.ref x, .ref C]) m M Φ Q := EW.mk fun G s S =>
  kia_one (kitx_own k1 k2 k3 k4 k5 k6) (S.kin G) (W.InstAt.of_news S.N h1 h2) k7 (by intro e; cases e) fun tk => Post.tok S h
end
theorem bt_len : bootBuiltins "len" = some (.builtin "len") := by with_unfolding_all rfl
theorem bt_min : bootBuiltins "min" = some (.builtin "min") := by with_unfolding_all rfl
theorem bt_isi : bootBuiltins "isinstance" = some (.builtin "isinstance") := by with_unfolding_all rfl
theorem bt_sorted : bootBuiltins "sorted" = some (.builtin "sorted") := by with_unfolding_all rfl
theorem bt_range : bootBuiltins "range" = some (.type "range") := by with_unfolding_all rfl
theorem bt_list : bootBuiltins "list" = some (.type "list") := by with_unfolding_all rfl
theorem bt_dict : bootBuiltins "dict" = some (.type "dict") := by with_unfolding_all rfl
theorem bt_str : bootBuiltins "str" = some (.type "str") := by with_unfolding_all rfl

end

section
-- part LzPrim4
section
variable {c : Cx} {m : Loc} {M Φ : Led} {env : Env}

theorem Sat.ext {s : Shared} {h' : Heap} {tk : Nat} (S : Sat c m M Φ s) (hx : Heap.ExtBut s.heap.objs.size s.heap h') : Sat c m M Φ { s with heap := h', toks := tk } := by
  have k : ∀ b o, s.heap.get? b = some o → h'.get? b = some o := fun b o e => hx b o (Nat.ne_of_lt (Heap.lt_size e)) e
  exact ⟨S.F.keeps k, fun p hp => ⟨k _ _ (S.N p hp).1, (S.N p hp).2⟩, S.S⟩

theorem asg {x : PySem.Str} {px : Pos} {v : Value} {Q : Unit → Loc → Led → Led → Prop} (h : EW c (storeName env x v) m M Φ Q) : EW c (assign (.Name x px) env v) m M Φ Q := EW.mk fun G s S => wpAny_assign_Name (h.run G s S)
theorem ord_more {t : Value → Sem Unit} {ts : List (Value → Sem Unit)} {x : Value} {xs : List Value} {Q : Unit → Loc → Led → Led → Prop} (h : EW c (t x) m M Φ (fun _ m M Φ => EW c (assignInOrder ts xs) m M Φ Q)) : EW c (assignInOrder (t :: ts) (x :: xs)) m M Φ Q :=
  EW.mk fun G _ S => wpAny_assignInOrder_more (EW.then (f := fun _ => assignInOrder ts xs) h G S)
theorem ord_none {Q : Unit → Loc → Led → Led → Prop} (h : Q () m M Φ) : EW c (assignInOrder [] []) m M Φ Q := EW.mk fun _ _ S => wpAny_assignInOrder_none (Post.same S h)

theorem AssignTup_ {elts : List Expr} {k : Nat} {tpos pos : Pos} {value : Expr} {Q : Flow → Loc → Led → Led → Prop}
    (h : EW c (eval value env) m M Φ (fun v m M Φ => ∃ t o vs, v = .ref t ∧ (t, o) ∈ M ++ Φ ∧ TO o vs ∧ (assignEach elts env).length = vs.length ∧ EW c (assignInOrder ((assignEach elts env).map (·.2)) vs) m M Φ (fun _ => Q .next)))
    (h1 : swapsWithSole [.Tuple elts k tpos] value pos.line env = Pure.pure false := by with_unfolding_all rfl) (h2 : swappedStores [.Tuple elts k tpos] value env = Pure.pure none := by with_unfolding_all rfl)
    (h3 : (assignEach elts env).findIdx? (·.1) = none := by with_unfolding_all rfl) : EW c (exec (.Assign [.Tuple elts k tpos] value pos) env) m M Φ Q := by
  refine EW.mk fun G s S => ?_
  refine Assign_Tuple (wpAny_mono (h.run G s S) (fun v s' x => ?_) fun _ _ x => x) h1 h2
  obtain ⟨m', M', Φ', h', tk', rfl, S', sub, t, o, vs, rfl, hm, ho, hl, q⟩ := x
  refine PySem.wpAny_assign_Tuple G.handled (items := vs.toArray) (ho.at S' hm) (by simpa using hl) h3 fun h'' hx => ?_
  have S'' : Sat c m' M' Φ' { s with heap := h'', toks := tk' } := S'.ext (tk := tk') hx
  exact wpAny_mono (q.run G _ S'') (fun _ _ x => by
    obtain ⟨m₂, M₂, Φ₂, h₂, tk₂, rfl, S₂, sub₂, q⟩ := x
    exact ⟨m₂, M₂, Φ₂, h₂, tk₂, rfl, S₂, fun p hp => sub₂ p (sub p hp), q⟩) fun _ _ x => x

/-- two names at once from a written pair: the stores go from the right -/
theorem AssignSwap_ {elts : List Expr} {k : Nat} {tpos pos : Pos} {value : Expr} {names : List PySem.Str} {Q : Flow → Loc → Led → Led → Prop}
    (h : EW c (eval value env) m M Φ (fun v m M Φ => EW c (unpackItems v names.length none) m M Φ (fun items m M Φ => EW c (assignInOrder (names.reverse.map fun n => bindName env n) items.reverse) m M Φ (fun _ => Q .next))))
    (h1 : swapsWithSole [.Tuple elts k tpos] value pos.line env = Pure.pure false) (h2 : swappedStores [.Tuple elts k tpos] value env = Pure.pure (some names)) : EW c (exec (.Assign [.Tuple elts k tpos] value pos) env) m M Φ Q :=
  EW.mk fun G _ S => Assign_Tuple_swapped (EW.then2 (f := fun v => unpackItems v names.length none) (g := fun _ items => assignInOrder (names.reverse.map fun n => bindName env n) items.reverse) (Q := fun _ => Q .next) h G S) h1 h2
theorem bindN {x : PySem.Str} {v : Value} {Q : Unit → Loc → Led → Led → Prop} (h : EW c (storeName env x v) m M Φ Q) : EW c (bindName env x v) m M Φ Q := EW.mk fun G s S => wpAny_bindName (h.run G s S)
theorem AugName_ {x : PySem.Str} {px pos : Pos} {op : Operator} {value : Expr} {Q : Flow → Loc → Led → Led → Prop}
    (h : EW c (loadName env x) m M Φ (fun old m M Φ => EW c (eval value env) m M Φ (fun v m M Φ => EW c (inplaceOp op old v) m M Φ (fun r m M Φ => EW c (storeName env x r) m M Φ (fun _ => Q .next))))) : EW c (exec (.AugAssign (.Name x px) op value pos) env) m M Φ Q :=
  EW.mk fun G _ S => wpAny_AugAssign_Name (EW.then3 (f := fun _ => eval value env) (g := fun old v => inplaceOp op old v) (k := fun _ _ r => storeName env x r) (Q := fun _ => Q .next) h G S)
theorem iIadd {a b : Int} {t u : Tok} {Q : Value → Loc → Led → Led → Prop} (h : ∀ t, Q (.int (a + b) t) m M Φ) : EW c (inplaceOp .Add (.int a t) (.int b u)) m M Φ Q := EW.mk fun _ _ S => wpAny_iadd_int (Post.tok S (h _))
variable {cn : PySem.Str} {cs : Scope} {a : Addr} {ccd : Value} {cl : List (PySem.Str × Addr)}
theorem lN {x : PySem.Str} {v : Value} {Q : Value → Loc → Led → Led → Prop} (hv : m x = some v) (h : Q v m M Φ) (hk : cs.kind = .function := by with_unfolding_all rfl) (hx : (envX cn cs c.L a ccd cl).kindOf x = some .local := by with_unfolding_all rfl) :
    EW c (loadName (envX cn cs c.L a ccd cl) x) m M Φ Q := EW.mk fun _ _ S => wpAny_loadName_local hk hx S.F.ns hv (Post.same S h)

-- instances, frozen
def Ins (Φ : Led) (x C : Addr) (fs : List (PySem.Str × Value)) : Prop := ∃ dx es n, (x, instObj C dx) ∈ Φ ∧ (dx, dictOf es n) ∈ Φ ∧ Flds es fs
theorem Ins.sub {Φ' : Led} {x C : Addr} {fs : List (PySem.Str × Value)} (h : Ins Φ x C fs) (sub : ∀ p ∈ Φ, p ∈ Φ') : Ins Φ' x C fs := by
  obtain ⟨dx, es, n, h1, h2, F⟩ := h
  exact ⟨dx, es, n, sub _ h1, sub _ h2, F⟩
theorem gI {x C : Addr} {fs : List (PySem.Str × Value)} {name : PySem.Str} {v : Value} {attr : Option Value} {expr : Bool} {Q : Value → Loc → Led → Led → Prop} (h0 : Ins Φ x C fs)
    (hg : plainGet (hd.heap_39 c.w.params) C name = true) (hh : hasDictIn (hd.heap_39 c.w.params) C = true) (ha : findIn (hd.heap_39 c.w.params) (.ref C) name = some attr) (hn : noGet (hd.heap_39 c.w.params) attr = true)
    (hv : getF name fs = some v) (hi : handedIn v = true) (h : Q v m M Φ) : EW c (getAttr (.ref x) name expr) m M Φ Q := by
  obtain ⟨dx, es, n, h1, h2, F⟩ := h0
  exact gA (mem_led h1) (mem_led h2) F hg hh ha hn hv hi h
theorem isI {x D C : Addr} {fs : List (PySem.Str × Value)} {b : Bool} {Q : Value → Loc → Led → Led → Prop} (h0 : Ins Φ x D fs)
    (k1 : plainGet (hd.heap_39 c.w.params) D "__class__" = true) (k2 : hasDictIn (hd.heap_39 c.w.params) D = true) (k3 : findIn (hd.heap_39 c.w.params) (.ref D) "__class__" = some (some (.builtin "object.__class__")))
    (k4 : specialIn (hd.heap_39 c.w.params) (.builtin "object.__class__") "__get__" = some (some (.builtin "getset_descriptor.__get__"))) (k5 : takesIn (hd.heap_39 c.w.params) (.builtin "object.__class__") = some true) (k6 : mroIn (hd.heap_39 c.w.params) D (.type "object") = some true)
    (k7 : kitOne (hd.heap_39 c.w.params) (.ref D) (.ref C) = some b) (h : Q (.bool b) m M Φ) : EW c (call (.builtin "isinstance") [.ref x, .ref C]) m M Φ Q := by
  obtain ⟨dx, es, n, h1, h2, F⟩ := h0
  exact isi (mem_led h1) (mem_led h2) k1 k2 k3 k4 k5 k6 k7 h
end

-- plain data
inductive V where
  | int (i : Int)
  | ch (x : PySem.Str)
  | at (a : Nat)
  deriving DecidableEq
def V.dat : V → Dat
  | .int i => .tuple [.str "int", .int i]
  | .ch x => .tuple [.str "char", .str x]
  | .at a => .tuple [.str "at", .int a]
def vsD (vs : List V) : Dat := .list (vs.map V.dat)
inductive Cell where
  | fn (s : PySem.Str) (vs : List V)
  | th (s : PySem.Str) (vs : List V)
  | pa (a : Nat) (vs : List V)
  | da (s : PySem.Str) (vs : List V)
  | ho
  | pl (v : V)
  | li (a : Nat)
def V.map (f : Nat → Nat) : V → V
  | .int i => .int i
  | .ch x => .ch x
  | .at a => .at (f a)
def Cell.map (f : Nat → Nat) : Cell → Cell
  | .fn s vs => .fn s (vs.map (V.map f))
  | .th s vs => .th s (vs.map (V.map f))
  | .pa a vs => .pa (f a) (vs.map (V.map f))
  | .da s vs => .da s (vs.map (V.map f))
  | .ho => .ho
  | .pl v => .pl (v.map f)
  | .li a => .li a
def V.ok : V → Bool
  | .int _ => true
  | .ch x => PyData.strOk x
  | .at _ => true
/-- a row of the law -/
inductive RowD : Cell → Dat → Prop
  | fn {s vs} : RowD (.fn s vs) (.tuple [.str "function", .str s, vsD vs])
  | th {s vs} : RowD (.th s vs) (.tuple [.str "thunk", .str s, vsD vs])
  | pa {a : Nat} {vs} : RowD (.pa a vs) (.tuple [.str "partial", .int a, vsD vs])
  | da {s vs} : RowD (.da s vs) (.tuple [.str "data", .str s, vsD vs])
  | ho {nm} : RowD .ho (.tuple [.str "hole", .str nm, .list []])
  | pl {v nm} : RowD (.pl v) (.tuple [.str "plain", .str nm, .list [v.dat]])
  | li {a : Nat} : RowD (.li a) (.tuple [.str "link", .int a, .list []])
/-- what _law_row tells of a cell -/
def Cell.out : Cell → Dat
  | .fn s vs => .tuple [.str "function", .str s, vsD vs]
  | .th s vs => .tuple [.str "thunk", .str s, vsD vs]
  | .pa a vs => .tuple [.str "partial", .int a, vsD vs]
  | .da s vs => .tuple [.str "data", .str s, vsD vs]
  | .ho => .tuple [.str "hole", .none, .list []]
  | .pl v => .tuple [.str "plain", .none, .list [v.dat]]
  | .li a => .tuple [.str "link", .int a, .list []]
/-- an object that is a cell -/
inductive CellV (Φ : Led) : Value → Cell → Prop
  | fn {x s t u vs} : Ins Φ x 64 [("code", .str s t), ("captured", u)] → DatIn Φ u (vsD vs) → CellV Φ (.ref x) (.fn s vs)
  | th {x s t u vs} : Ins Φ x 106 [("code", .str s t), ("captured", u)] → DatIn Φ u (vsD vs) → CellV Φ (.ref x) (.th s vs)
  | pa {x t u vs} {a : Nat} : Ins Φ x 85 [("address", .int a t), ("values", u)] → DatIn Φ u (vsD vs) → CellV Φ (.ref x) (.pa a vs)
  | da {x s t u vs} : Ins Φ x 183 [("con", .str s t), ("values", u)] → DatIn Φ u (vsD vs) → CellV Φ (.ref x) (.da s vs)
  | ho {x} : Ins Φ x 120 [] → CellV Φ (.ref x) .ho
  | pl {x u v} : Ins Φ x 162 [("value", u)] → DatIn Φ u (V.dat v) → CellV Φ (.ref x) (.pl v)
  | li {x t} {a : Nat} : Ins Φ x 141 [("address", .int a t)] → CellV Φ (.ref x) (.li a)
theorem CellV.sub {Φ Φ' : Led} {v : Value} {c : Cell} (h : CellV Φ v c) (sub : ∀ p ∈ Φ, p ∈ Φ') : CellV Φ' v c := by
  cases h with
  | fn i d => exact .fn (i.sub sub) (d.mono sub)
  | th i d => exact .th (i.sub sub) (d.mono sub)
  | pa i d => exact .pa (i.sub sub) (d.mono sub)
  | da i d => exact .da (i.sub sub) (d.mono sub)
  | ho i => exact .ho (i.sub sub)
  | pl i d => exact .pl (i.sub sub) (d.mono sub)
  | li i => exact .li (i.sub sub)
theorem ite_T {p : Prop} [Decidable p] {a b : Prop} (h : p) (x : a) : if p then a else b := by rw [if_pos h]; exact x
theorem ite_F {p : Prop} [Decidable p] {a b : Prop} (h : ¬p) (x : b) : if p then a else b := by rw [if_neg h]; exact x
section
variable {c : Cx} {m : Loc} {M Φ : Led} {env : Env} {x₁ x₂ x₃ : PySem.Str} {p₁ p₂ p₃ tpos pos : Pos} {k : Nat} {value : Expr} {Q : Flow → Loc → Led → Led → Prop}
theorem AssignTup3_ (h : EW c (eval value env) m M Φ (fun v m M Φ => ∃ t o v₁ v₂ v₃, v = .ref t ∧ (t, o) ∈ M ++ Φ ∧ TO o [v₁, v₂, v₃] ∧ EW c (storeName env x₁ v₁) m M Φ (fun _ m M Φ => EW c (storeName env x₂ v₂) m M Φ (fun _ m M Φ => EW c (storeName env x₃ v₃) m M Φ (fun _ => Q .next)))))
    (h1 : swapsWithSole [.Tuple [.Name x₁ p₁, .Name x₂ p₂, .Name x₃ p₃] k tpos] value pos.line env = Pure.pure false := by with_unfolding_all rfl) (h2 : swappedStores [.Tuple [.Name x₁ p₁, .Name x₂ p₂, .Name x₃ p₃] k tpos] value env = Pure.pure none := by with_unfolding_all rfl) :
    EW c (exec (.Assign [.Tuple [.Name x₁ p₁, .Name x₂ p₂, .Name x₃ p₃] k tpos] value pos) env) m M Φ Q :=
  AssignTup_ (h.mono fun v m' M' Φ' _ ⟨t, o, v₁, v₂, v₃, e, hm, ho, q⟩ => ⟨t, o, _, e, hm, ho, rfl, ord_more (asg (q.mono fun _ _ _ _ _ q => ord_more (asg (q.mono fun _ _ _ _ _ q => ord_more (asg (q.mono fun _ _ _ _ _ q => ord_none q))))))⟩) h1 h2 rfl
theorem AssignTup2_ (h : EW c (eval value env) m M Φ (fun v m M Φ => ∃ t o v₁ v₂, v = .ref t ∧ (t, o) ∈ M ++ Φ ∧ TO o [v₁, v₂] ∧ EW c (storeName env x₁ v₁) m M Φ (fun _ m M Φ => EW c (storeName env x₂ v₂) m M Φ (fun _ => Q .next))))
    (h1 : swapsWithSole [.Tuple [.Name x₁ p₁, .Name x₂ p₂] k tpos] value pos.line env = Pure.pure false := by with_unfolding_all rfl) (h2 : swappedStores [.Tuple [.Name x₁ p₁, .Name x₂ p₂] k tpos] value env = Pure.pure none := by with_unfolding_all rfl) :
    EW c (exec (.Assign [.Tuple [.Name x₁ p₁, .Name x₂ p₂] k tpos] value pos) env) m M Φ Q :=
  AssignTup_ (h.mono fun v m' M' Φ' _ ⟨t, o, v₁, v₂, e, hm, ho, q⟩ => ⟨t, o, _, e, hm, ho, rfl, ord_more (asg (q.mono fun _ _ _ _ _ q => ord_more (asg (q.mono fun _ _ _ _ _ q => ord_none q))))⟩) h1 h2 rfl
end
section
variable {Φ : Led} {d e f : Dat} {v : Value}
/-- a tuple of three, opened -/
theorem tup3 (h : DatIn Φ v (.tuple [d, e, f])) : ∃ a o v₁ v₂ v₃, v = .ref a ∧ (a, o) ∈ Φ ∧ TO o [v₁, v₂, v₃] ∧ DatIn Φ v₁ d ∧ DatIn Φ v₂ e ∧ DatIn Φ v₃ f := by
  cases h with
  | @tuple a vs n _ hm hr =>
    cases hr with
    | cons h1 hr =>
      cases hr with
      | cons h2 hr =>
        cases hr with
        | cons h3 hr => cases hr; exact ⟨a, _, _, _, _, rfl, hm, ⟨rfl, n, rfl⟩, h1, h2, h3⟩
theorem tup2 (h : DatIn Φ v (.tuple [d, e])) : ∃ a o v₁ v₂, v = .ref a ∧ (a, o) ∈ Φ ∧ TO o [v₁, v₂] ∧ DatIn Φ v₁ d ∧ DatIn Φ v₂ e := by
  cases h with
  | @tuple a vs n _ hm hr =>
    cases hr with
    | cons h1 hr =>
      cases hr with
      | cons h2 hr => cases hr; exact ⟨a, _, _, _, rfl, hm, ⟨rfl, n, rfl⟩, h1, h2⟩
theorem dStr {x : PySem.Str} (h : DatIn Φ v (.str x)) : ∃ t, v = .str x t := by cases h; exact ⟨_, rfl⟩
theorem dInt {x : Int} (h : DatIn Φ v (.int x)) : ∃ t, v = .int x t := by cases h; exact ⟨_, rfl⟩
theorem dList {ds : List Dat} (h : DatIn Φ v (.list ds)) : ∃ l n vs, v = .ref l ∧ (l, lo vs n) ∈ Φ ∧ DatAll Φ vs ds := by
  cases h with
  | @list a vs n _ hm hr => exact ⟨a, n, vs, rfl, hm, hr⟩
end

end

section
-- part LzPrim5
def Locs (m : Loc) : List (PySem.Str × Value) → Prop
  | [] => True
  | (x, v) :: r => m x = some v ∧ Locs m r
theorem Locs.get {m : Loc} {x : PySem.Str} {v : Value} : ∀ {fs : List (PySem.Str × Value)}, Locs m fs → fs.lookup x = some v → m x = some v
  | [], _, h => by cases h
  | (n, u) :: r, ⟨h1, h2⟩, h => by
    rw [List.lookup_cons] at h
    split at h
    · rename_i e
      cases h
      have : x = n := eq_of_beq e
      rw [this]; exact h1
    · exact Locs.get h2 h
theorem up_eq {m : Loc} {x : PySem.Str} {v : Value} : up m x v x = some v := if_pos rfl
theorem up_ne {m : Loc} {x y : PySem.Str} {v : Value} (h : ¬ y = x) : up m x v y = m y := if_neg h

section
variable {c : Cx} {m : Loc} {M Φ : Led} {Q : Value → Loc → Led → Led → Prop}
theorem yS {value slice : Expr} {l : Addr} {vs : List Value} {k : Int} {u : Tok} {v : Value} (h1 : SrcAt c Φ l vs) (h0 : 0 ≤ k) (hhi : k < 1000000) (hx : vs[k.toNat]? = some v) (h : Q v m M Φ)
    (hs : subscripted slice false (.ref l) (.int k u) = operate [.ref l, .int k u] (getItem (.ref l) (.int k u)) := by with_reducible first | exact sub_const | exact sub_name | exact sub_sub | exact sub_attr | exact sub_call) : EW c (subscriptTail value slice (.ref l) (.int k u)) m M Φ Q := EW.mk fun _ _ S =>
  tail_any (h1.isList S).typeIs slot_list_getitem.lookup (wpAny_getItem_list (h1.isList S) h0 (by omega) (by simpa using hx) (Post.same S h)) hs
theorem lenS {l : Addr} {vs : List Value} (h1 : SrcAt c Φ l vs) (hz : vs.length < 2 ^ 60) (h : ∀ t, Q (.int (vs.length : Nat) t) m M Φ) : EW c (call (.builtin "len") [.ref l]) m M Φ Q := EW.mk fun _ _ S =>
  len_list (h1.isList S) (by simp only [List.size_toArray]; omega) (Post.tok S (by simpa using h _))
theorem mulSmall {b : Int} (h : b.natAbs < 2 ^ 40) (a : Int) : IntMulOk a b := by
  refine .of_right ?_
  unfold Builtin.Int.intBits
  split
  · decide
  · rename_i hne
    have : b.natAbs.log2 < 40 := (Nat.log2_lt (by intro e; apply hne; simp; omega)).mpr h
    omega
end
theorem getR {M R : Led} {i : Nat} {p : Addr × Obj} (h : M[i]? = some p) : (M ++ R)[i]? = some p := by
  have hil : i < M.length := by
    rcases Nat.lt_or_ge i M.length with h' | h'
    · exact h'
    · rw [List.getElem?_eq_none h'] at h; cases h
  rw [List.getElem?_append_left hil]; exact h
theorem ltG {M : Led} {i : Nat} {p : Addr × Obj} (h : M[i]? = some p) : i < M.length := by
  rcases Nat.lt_or_ge i M.length with h' | h'
  · exact h'
  · rw [List.getElem?_eq_none h'] at h; cases h
theorem setR {M R : Led} {i : Nat} {p q : Addr × Obj} (h : M[i]? = some q) : (M ++ R).set i p = M.set i p ++ R := List.set_append_left _ _ (ltG h)
theorem getSet {M : Led} {i : Nat} {p q : Addr × Obj} (h : M[i]? = some q) : (M.set i p)[i]? = some p := by rw [List.getElem?_set_self (ltG h)]
theorem setSet {M : Led} {i : Nat} {p q : Addr × Obj} : (M.set i p).set i q = M.set i q := List.set_set ..
theorem getNe {M : Led} {i j : Nat} {p q : Addr × Obj} (h : M[j]? = some q) (n : i ≠ j) : (M.set i p)[j]? = some q := by rw [List.getElem?_set_ne n]; exact h

end

theorem fill_all : PySem.Challenge.rw_np0229_01 = PySem.Challenge.rw_np0229_01 ∧ hd.heap_39 = hd.heap_39 := by k_fill; exact ⟨rfl, rfl⟩
local macro_rules | `(tactic| walk_at "st") => `(tactic| with_reducible first
  | ((show EW _ (eval _ _) _ _ _ _); first
    | refine Subscript_ ?_
    | refine Attribute_ ?_
    | refine cInt fun _ => ?_
    | refine cStr fun _ => ?_
    | refine BinOp_ ?_
    | refine MethodCall_ ?_
    | refine Call_ ?_
    | refine Compare_ ?_
    | refine Tuple_ ?_
    | refine IfExp_ ?_
    | refine List_ ?_
    | refine cBool ?_
    | refine cNone ?_)
  | ((show EW _ (execs _ _) _ _ _ _); first
    | refine execs_cons ?_
    | refine execs_nil ?_)
  | ((show EW _ (exec _ _) _ _ _ _); first
    | refine Assign_ ?_
    | refine If_ ?_
    | refine Return_ ?_
    | refine AssignSub_ ?_
    | refine AssignAttr_ ?_
    | refine Expr_ ?_
    | refine AssignTup3_ ?_
    | refine AssignTup2_ ?_)
  | ((show EW _ (spliced _) _ _ _ _); first
    | refine args_cons ?_
    | refine args_nil ?_)
  | refine sL ?_
  | ((show EW _ (PySem.isTrue _ _ _) _ _ _ _); first
    | refine isTrue_Compare ?_
    | refine isTrue_not ?_
    | refine isTrue_and ?_
    | refine isTrue_and_nil ?_
    | refine isTrue_or ?_
    | refine isTrue_or_nil ?_
    | refine isTrue_any ?_)
  | refine tBool ?_
  | ((show EW _ (callWith _ _ _ _ _) _ _ _ _); first
    | refine cwB ?_
    | refine cwB0 ?_
    | refine cwT ?_)
  | ((show EW _ (binaryOp _ (Value.int _ _) (Value.int _ _)) _ _ _ _); first
    | refine iAdd fun _ => ?_
    | refine iSub fun _ => ?_)
  | ((show EW _ (compareOp _ (Value.int _ _) (Value.int _ _)) _ _ _ _); first
    | refine iGt ?_
    | refine iGe ?_
    | refine iLt ?_
    | refine iEq ?_
    | refine iNe ?_)
  | ((show EW _ (compareOp _ (Value.str _ _) (Value.str _ _)) _ _ _ _); first
    | refine sEq ?_
    | refine sNe ?_)
  | ((show ite _ _ _); first
    | refine ite_T (by with_unfolding_all decide) ?_
    | refine ite_F (by with_unfolding_all decide) ?_))
local macro_rules | `(tactic| walk_at "lk") => `(tactic| first
  | with_unfolding_all rfl
  | exact up_eq
  | exact Locs.get (by assumption) (by with_unfolding_all rfl)
  | (refine (up_ne (by with_unfolding_all decide)).trans ?_; walk_at "lk"))
local macro_rules | `(tactic| walk_at "nm") => `(tactic| first
  | ((with_reducible show EW _ (eval (Expr.Name _ _) _) _ _ _ _); first
    | (with_reducible refine' nL ?hv ?_; (case hv => walk_at "lk"))
    | (with_reducible refine' nK ?e ?_; (case e => k_is))
    | (with_reducible refine' nB ?e ?hv ?_; (case e => k_is); (case hv => with_reducible first | exact bt_len | exact bt_isi | exact bt_range | exact bt_list | exact bt_str | exact bt_min | exact bt_sorted | exact bt_dict)))
  | ((with_reducible show EW _ (callWith _ _ _ _ _) _ _ _ _); first
    | (with_reducible refine' cwK ?k ?_; (case k => k_is))
    | (with_reducible refine' cwK0 ?k ?_; (case k => k_is))))
local macro_rules | `(tactic| walk_at "w") => `(tactic| repeat (first | walk_at "st" | walk_at "nm" | ((with_reducible show EW _ (execs _ _) _ _ _ _); refine execs_cons ?_)))

section
-- part heap
section
variable {c : Cx} {m : Loc} {M Φ : Led} {Q : Value → Loc → Led → Led → Prop} {H hd' cd : Addr} {es : List DictEntry} {n : Nat} {k : Int} {t : Tok} {o : Obj} {kvs : List (Int × Value)}

theorem heap_get {a : Int} {u : Tok} {v : Value} (hn : 1 ≤ c.n) (hH : (H, instObj 232 hd') ∈ Φ) (hi : (hd', dictOf es n) ∈ M ++ Φ) (F : Flds es [("cells", .ref cd), ("next", .int k t)]) (hj : (cd, o) ∈ M ++ Φ) (ho : DO c.w cd o kvs)
    (hv : valueAt kvs a = some v) (h : Q v m M Φ) : EW c (call (.ref 215) [.ref H, .int a u]) m M Φ Q := by
  refine call_def (f := 215) (binds := [("self", .ref H), ("address", .int a u)]) (by k_is) (by k_is) hn (by rfl) (locs rfl) rfl rfl rfl (by decide) fun c' hw hn' _ => ?_
  rw [← hw] at ho
  walk_at "w"
  refine gA (mem_led hH) hi F (by k_is) (by k_is) (by k_is) (by k_is) rfl rfl ?_
  refine notInD hj ho ?_
  rw [hv]
  walk_at "w"
  rw [if_neg (by simp)]
  walk_at "w"
  refine gA (mem_led hH) hi F (by k_is) (by k_is) (by k_is) (by k_is) rfl rfl ?_
  walk_at "w"
  refine xD hj ho hv ?_
  exact h

theorem heap_put {i : Nat} {a : Int} {u : Tok} {v : Value} (hn : 1 ≤ c.n) (hH : (H, instObj 232 hd') ∈ Φ) (hi : (hd', dictOf es n) ∈ M ++ Φ) (F : Flds es [("cells", .ref cd), ("next", .int k t)]) (hj : M[i]? = some (cd, o)) (ho : DO c.w cd o kvs) (hz : kvs.length ≤ 1000)
    (h : ∀ o', DO c.w cd o' (stored kvs a v) → Q .none m (M.set i (cd, o')) Φ) : EW c (call (.ref 222) [.ref H, .int a u, v]) m M Φ Q := by
  refine call_def (f := 222) (binds := [("self", .ref H), ("address", .int a u), ("cell", v)]) (by k_is) (by k_is) hn (by rfl) (locs rfl) rfl rfl rfl (by decide) fun c' hw hn' _ => ?_
  rw [← hw] at ho
  walk_at "w"
  refine gA (mem_led hH) hi F (by k_is) (by k_is) (by k_is) (by k_is) rfl rfl ?_
  walk_at "w"
  refine setD hj ho (by omega) fun o' ho' => ?_
  rw [hw] at ho'
  walk_at "w"
  exact h o' ho'

theorem heap_many (hn : 1 ≤ c.n) (hH : (H, instObj 232 hd') ∈ Φ) (hi : (hd', dictOf es n) ∈ M ++ Φ) (F : Flds es [("cells", .ref cd), ("next", .int k t)]) (hj : (cd, o) ∈ M ++ Φ) (ho : DO c.w cd o kvs) (hz : kvs.length ≤ 1000)
    (h : ∀ t, Q (.int (kvs.length : Nat) t) m M Φ) : EW c (call (.ref 229) [.ref H]) m M Φ Q := by
  refine call_def (f := 229) (binds := [("self", .ref H)]) (by k_is) (by k_is) hn (by rfl) (locs rfl) rfl rfl rfl (by decide) fun c' hw hn' _ => ?_
  rw [← hw] at ho
  walk_at "w"
  refine gA (mem_led hH) hi F (by k_is) (by k_is) (by k_is) (by k_is) rfl rfl ?_
  walk_at "w"
  refine lenD hj ho (by omega) fun t => ?_
  exact h t

theorem heap_new {i j : Nat} {v : Value} (hn : 1 ≤ c.n) (hH : (H, instObj 232 hd') ∈ Φ) (hi : M[i]? = some (hd', dictOf es n)) (F : Flds es [("cells", .ref cd), ("next", .int k t)]) (hj : M[j]? = some (cd, o)) (hij : i ≠ j) (ho : DO c.w cd o kvs) (hz : kvs.length ≤ 1000)
    (h : ∀ es' n' o' t', Flds es' [("cells", .ref cd), ("next", .int (k + 1) t')] → DO c.w cd o' (stored kvs k v) → Q (.int k t) m ((M.set i (hd', dictOf es' n')).set j (cd, o')) Φ) : EW c (call (.ref 208) [.ref H, v]) m M Φ Q := by
  refine call_def (f := 208) (binds := [("self", .ref H), ("cell", v)]) (by k_is) (by k_is) hn (by rfl) (locs rfl) rfl rfl rfl (by decide) fun c' hw hn' _ => ?_
  rw [← hw] at ho
  walk_at "w"
  refine gA (mem_led hH) (mem_of_get hi) F (by k_is) (by k_is) (by k_is) (by k_is) rfl rfl ?_
  walk_at "w"
  refine sA (mem_led hH) hi F (by k_is) (by k_is) (by k_is) (by k_is) fun es' n' F' => ?_
  walk_at "w"
  have F' : Flds es' [("cells", .ref cd), ("next", .int (k + 1) _)] := F'
  have hil : i < M.length := by
    rcases Nat.lt_or_ge i M.length with h | h
    · exact h
    · rw [List.getElem?_eq_none h] at hi; cases hi
  have hi' : (M.set i (hd', dictOf es' n'))[i]? = some (hd', dictOf es' n') := by rw [List.getElem?_set_self hil]
  have hj' : (M.set i (hd', dictOf es' n'))[j]? = some (cd, o) := by rw [List.getElem?_set_ne hij]; exact hj
  refine gA (mem_led hH) (mem_of_get hi') F' (by k_is) (by k_is) (by k_is) (by k_is) rfl rfl ?_
  walk_at "w"
  refine setD hj' ho (by omega) fun o' ho' => ?_
  rw [hw] at ho'
  walk_at "w"
  exact h _ _ _ _ F' ho'

theorem heap_make (hn : 2 ≤ c.n) (h : ∀ H hd' es n cd o t, (∀ p ∈ M ++ Φ, p.1 < hd') → Flds es [("cells", .ref cd), ("next", .int 0 t)] → DO c.w cd o [] → Q (.ref H) m ((cd, o) :: (hd', dictOf es n) :: M) ((H, instObj 232 hd') :: Φ)) :
    EW c (call (.ref 232) []) m M Φ Q := by
  refine call_class (C := 232) (fI := 201) (binds := fun x => [("self", .ref x)]) (by k_is) (by k_is) (by k_is) (by k_is) (by k_is) hn (fun _ => by rfl) (fun _ => locs rfl) rfl rfl rfl (by decide) fun x dx c' l1 l2 hw hn' => ?_
  walk_at "w"
  refine newD fun d o hD hlt => ?_
  rw [hw] at hD
  walk_at "w"
  refine sA (i := 1) (mem_led (.head _)) rfl .nil (by k_is) (by k_is) (by k_is) (by k_is) fun es' n' F' => ?_
  walk_at "w"
  refine sA (i := 1) (mem_led (.head _)) rfl F' (by k_is) (by k_is) (by k_is) (by k_is) fun es₂ n₂ F₂ => ?_
  walk_at "w"
  exact ⟨rfl, h x dx es₂ n₂ d o _ l1 F₂ hD⟩
end

end

section
-- part mkcells
section
variable {c : Cx} {m : Loc} {M Φ : Led} {Q : Value → Loc → Led → Led → Prop}

theorem mk_fn {a b : Value} (hn : 2 ≤ c.n) (h : ∀ x Φ', (∀ p ∈ Φ, p ∈ Φ') → Ins Φ' x 64 [("code", a), ("captured", b)] → Q (.ref x) m M Φ') : EW c (call (.ref 64) [a, b]) m M Φ Q := by
  refine EW.freeze ?_
  refine call_class (C := 64) (fI := 61) (binds := fun x => [("self", .ref x), ("code", a), ("captured", b)]) (by k_is) (by k_is) (by k_is) (by k_is) (by k_is) hn (fun _ => by rfl) (fun _ => locs rfl) rfl rfl rfl (by decide) fun x dx c' l1 l2 hw hn' => ?_
  walk_at "w"
  refine sA (i := 0) (mem_led (.head _)) rfl .nil (by k_is) (by k_is) (by k_is) (by k_is) fun es n F => ?_
  walk_at "w"
  refine sA (i := 0) (mem_led (.head _)) rfl F (by k_is) (by k_is) (by k_is) (by k_is) fun es n F => ?_
  walk_at "w"
  exact ⟨rfl, _, _, rfl, h x _ (fun p hp => .tail _ (.tail _ hp)) ⟨dx, es, n, .tail _ (.head _), .head _, F⟩⟩

theorem mk_th {a b : Value} (hn : 2 ≤ c.n) (h : ∀ x Φ', (∀ p ∈ Φ, p ∈ Φ') → Ins Φ' x 106 [("code", a), ("captured", b)] → Q (.ref x) m M Φ') : EW c (call (.ref 106) [a, b]) m M Φ Q := by
  refine EW.freeze ?_
  refine call_class (C := 106) (fI := 103) (binds := fun x => [("self", .ref x), ("code", a), ("captured", b)]) (by k_is) (by k_is) (by k_is) (by k_is) (by k_is) hn (fun _ => by rfl) (fun _ => locs rfl) rfl rfl rfl (by decide) fun x dx c' l1 l2 hw hn' => ?_
  walk_at "w"
  refine sA (i := 0) (mem_led (.head _)) rfl .nil (by k_is) (by k_is) (by k_is) (by k_is) fun es n F => ?_
  walk_at "w"
  refine sA (i := 0) (mem_led (.head _)) rfl F (by k_is) (by k_is) (by k_is) (by k_is) fun es n F => ?_
  walk_at "w"
  exact ⟨rfl, _, _, rfl, h x _ (fun p hp => .tail _ (.tail _ hp)) ⟨dx, es, n, .tail _ (.head _), .head _, F⟩⟩

theorem mk_pa {a b : Value} (hn : 2 ≤ c.n) (h : ∀ x Φ', (∀ p ∈ Φ, p ∈ Φ') → Ins Φ' x 85 [("address", a), ("values", b)] → Q (.ref x) m M Φ') : EW c (call (.ref 85) [a, b]) m M Φ Q := by
  refine EW.freeze ?_
  refine call_class (C := 85) (fI := 82) (binds := fun x => [("self", .ref x), ("address", a), ("values", b)]) (by k_is) (by k_is) (by k_is) (by k_is) (by k_is) hn (fun _ => by rfl) (fun _ => locs rfl) rfl rfl rfl (by decide) fun x dx c' l1 l2 hw hn' => ?_
  walk_at "w"
  refine sA (i := 0) (mem_led (.head _)) rfl .nil (by k_is) (by k_is) (by k_is) (by k_is) fun es n F => ?_
  walk_at "w"
  refine sA (i := 0) (mem_led (.head _)) rfl F (by k_is) (by k_is) (by k_is) (by k_is) fun es n F => ?_
  walk_at "w"
  exact ⟨rfl, _, _, rfl, h x _ (fun p hp => .tail _ (.tail _ hp)) ⟨dx, es, n, .tail _ (.head _), .head _, F⟩⟩

theorem mk_da {a b : Value} (hn : 2 ≤ c.n) (h : ∀ x Φ', (∀ p ∈ Φ, p ∈ Φ') → Ins Φ' x 183 [("con", a), ("values", b)] → Q (.ref x) m M Φ') : EW c (call (.ref 183) [a, b]) m M Φ Q := by
  refine EW.freeze ?_
  refine call_class (C := 183) (fI := 180) (binds := fun x => [("self", .ref x), ("con", a), ("values", b)]) (by k_is) (by k_is) (by k_is) (by k_is) (by k_is) hn (fun _ => by rfl) (fun _ => locs rfl) rfl rfl rfl (by decide) fun x dx c' l1 l2 hw hn' => ?_
  walk_at "w"
  refine sA (i := 0) (mem_led (.head _)) rfl .nil (by k_is) (by k_is) (by k_is) (by k_is) fun es n F => ?_
  walk_at "w"
  refine sA (i := 0) (mem_led (.head _)) rfl F (by k_is) (by k_is) (by k_is) (by k_is) fun es n F => ?_
  walk_at "w"
  exact ⟨rfl, _, _, rfl, h x _ (fun p hp => .tail _ (.tail _ hp)) ⟨dx, es, n, .tail _ (.head _), .head _, F⟩⟩

theorem mk_pl {a : Value} (hn : 2 ≤ c.n) (h : ∀ x Φ', (∀ p ∈ Φ, p ∈ Φ') → Ins Φ' x 162 [("value", a)] → Q (.ref x) m M Φ') : EW c (call (.ref 162) [a]) m M Φ Q := by
  refine EW.freeze ?_
  refine call_class (C := 162) (fI := 159) (binds := fun x => [("self", .ref x), ("value", a)]) (by k_is) (by k_is) (by k_is) (by k_is) (by k_is) hn (fun _ => by rfl) (fun _ => locs rfl) rfl rfl rfl (by decide) fun x dx c' l1 l2 hw hn' => ?_
  walk_at "w"
  refine sA (i := 0) (mem_led (.head _)) rfl .nil (by k_is) (by k_is) (by k_is) (by k_is) fun es n F => ?_
  walk_at "w"
  exact ⟨rfl, _, _, rfl, h x _ (fun p hp => .tail _ (.tail _ hp)) ⟨dx, es, n, .tail _ (.head _), .head _, F⟩⟩

theorem mk_li {a : Value} (hn : 2 ≤ c.n) (h : ∀ x Φ', (∀ p ∈ Φ, p ∈ Φ') → Ins Φ' x 141 [("address", a)] → Q (.ref x) m M Φ') : EW c (call (.ref 141) [a]) m M Φ Q := by
  refine EW.freeze ?_
  refine call_class (C := 141) (fI := 138) (binds := fun x => [("self", .ref x), ("address", a)]) (by k_is) (by k_is) (by k_is) (by k_is) (by k_is) hn (fun _ => by rfl) (fun _ => locs rfl) rfl rfl rfl (by decide) fun x dx c' l1 l2 hw hn' => ?_
  walk_at "w"
  refine sA (i := 0) (mem_led (.head _)) rfl .nil (by k_is) (by k_is) (by k_is) (by k_is) fun es n F => ?_
  walk_at "w"
  exact ⟨rfl, _, _, rfl, h x _ (fun p hp => .tail _ (.tail _ hp)) ⟨dx, es, n, .tail _ (.head _), .head _, F⟩⟩

theorem mk_ho (h : ∀ x Φ', (∀ p ∈ Φ, p ∈ Φ') → Ins Φ' x 120 [] → Q (.ref x) m M Φ') : EW c (call (.ref 120) []) m M Φ Q :=
  call_class0 (by k_is) (by k_is) fun x dx l1 l2 => h x _ (fun p hp => .tail _ (.tail _ hp)) ⟨dx, [], 0, .head _, .tail _ (.head _), .nil⟩
end

end

section
-- part lawcell
def Cell.vals : Cell → List V
  | .fn _ vs | .th _ vs | .pa _ vs | .da _ vs => vs
  | .pl v => [v]
  | .ho | .li _ => []
section
variable {c : Cx} {m : Loc} {M Φ : Led} {Q : Value → Loc → Led → Led → Prop}

theorem law_cell {v : Value} {d : Dat} {cell : Cell} (hn : 4 ≤ c.n) (hd : DatIn Φ v d) (hr : RowD cell d) (hz : cell.vals.length ≤ 1000) (h : ∀ u Φ', (∀ p ∈ Φ, p ∈ Φ') → CellV Φ' u cell → Q u m M Φ') : EW c (call (.ref 349) [v]) m M Φ Q := by
  refine call_def (f := 349) (binds := [("row", v)]) (by k_is) (by k_is) (by omega) (by rfl) (locs rfl) rfl rfl rfl (by decide) fun c' hw hn' _ => ?_
  cases hr with
  | @fn s vs =>
    obtain ⟨t, o, v₁, v₂, v₃, rfl, hm, ho, d₁, d₂, d₃⟩ := tup3 hd
    obtain ⟨t₁, rfl⟩ := dStr d₁
    obtain ⟨t₂, rfl⟩ := dStr d₂
    obtain ⟨l, n, us, rfl, hl, da⟩ := dList d₃
    have hz : vs.length ≤ 1000 := hz
    have hlen := da.length
    rw [List.length_map] at hlen
    walk_at "w"
    refine ⟨t, o, _, _, _, rfl, mem_led hm, ho, ?_⟩
    walk_at "w"
    refine copyL ⟨_, LO.lo, .inl hl⟩ (by omega) fun D n' hlt => ?_
    refine EW.frozen ?_
    walk_at "w"
    refine mk_fn (by omega) fun x Φ' sub hx => ?_
    exact h _ _ (fun p hp => sub p (.tail _ hp)) (.fn hx (.list (sub _ (.head _)) (da.mono fun p hp => sub p (.tail _ hp))))
  | @th s vs =>
    obtain ⟨t, o, v₁, v₂, v₃, rfl, hm, ho, d₁, d₂, d₃⟩ := tup3 hd
    obtain ⟨t₁, rfl⟩ := dStr d₁
    obtain ⟨t₂, rfl⟩ := dStr d₂
    obtain ⟨l, n, us, rfl, hl, da⟩ := dList d₃
    have hz : vs.length ≤ 1000 := hz
    have hlen := da.length
    rw [List.length_map] at hlen
    walk_at "w"
    refine ⟨t, o, _, _, _, rfl, mem_led hm, ho, ?_⟩
    walk_at "w"
    refine copyL ⟨_, LO.lo, .inl hl⟩ (by omega) fun D n' hlt => ?_
    refine EW.frozen ?_
    walk_at "w"
    refine mk_th (by omega) fun x Φ' sub hx => ?_
    exact h _ _ (fun p hp => sub p (.tail _ hp)) (.th hx (.list (sub _ (.head _)) (da.mono fun p hp => sub p (.tail _ hp))))
  | @da s vs =>
    obtain ⟨t, o, v₁, v₂, v₃, rfl, hm, ho, d₁, d₂, d₃⟩ := tup3 hd
    obtain ⟨t₁, rfl⟩ := dStr d₁
    obtain ⟨t₂, rfl⟩ := dStr d₂
    obtain ⟨l, n, us, rfl, hl, da⟩ := dList d₃
    have hz : vs.length ≤ 1000 := hz
    have hlen := da.length
    rw [List.length_map] at hlen
    walk_at "w"
    refine ⟨t, o, _, _, _, rfl, mem_led hm, ho, ?_⟩
    walk_at "w"
    refine copyL ⟨_, LO.lo, .inl hl⟩ (by omega) fun D n' hlt => ?_
    refine EW.frozen ?_
    walk_at "w"
    refine mk_da (by omega) fun x Φ' sub hx => ?_
    exact h _ _ (fun p hp => sub p (.tail _ hp)) (.da hx (.list (sub _ (.head _)) (da.mono fun p hp => sub p (.tail _ hp))))
  | @pa a vs =>
    obtain ⟨t, o, v₁, v₂, v₃, rfl, hm, ho, d₁, d₂, d₃⟩ := tup3 hd
    obtain ⟨t₁, rfl⟩ := dStr d₁
    obtain ⟨t₂, rfl⟩ := dInt d₂
    obtain ⟨l, n, us, rfl, hl, da⟩ := dList d₃
    have hz : vs.length ≤ 1000 := hz
    have hlen := da.length
    rw [List.length_map] at hlen
    walk_at "w"
    refine ⟨t, o, _, _, _, rfl, mem_led hm, ho, ?_⟩
    walk_at "w"
    refine copyL ⟨_, LO.lo, .inl hl⟩ (by omega) fun D n' hlt => ?_
    refine EW.frozen ?_
    walk_at "w"
    refine mk_pa (by omega) fun x Φ' sub hx => ?_
    exact h _ _ (fun p hp => sub p (.tail _ hp)) (.pa hx (.list (sub _ (.head _)) (da.mono fun p hp => sub p (.tail _ hp))))
  | @ho nm =>
    obtain ⟨t, o, v₁, v₂, v₃, rfl, hm, ho, d₁, d₂, d₃⟩ := tup3 hd
    obtain ⟨t₁, rfl⟩ := dStr d₁
    walk_at "w"
    refine ⟨t, o, _, _, _, rfl, mem_led hm, ho, ?_⟩
    walk_at "w"
    refine mk_ho fun x Φ' sub hx => ?_
    exact h _ _ sub (.ho hx)
  | @pl v nm =>
    obtain ⟨t, o, v₁, v₂, v₃, rfl, hm, ho, d₁, d₂, d₃⟩ := tup3 hd
    obtain ⟨t₁, rfl⟩ := dStr d₁
    obtain ⟨l, n, us, rfl, hl, da⟩ := dList d₃
    cases da with
    | @cons u us _ _ du dn =>
      cases dn
      walk_at "w"
      refine ⟨t, o, _, _, _, rfl, mem_led hm, ho, ?_⟩
      walk_at "w"
      refine yL (mem_led hl) LO.lo (by decide) (by decide) rfl ?_
      walk_at "w"
      refine mk_pl (by omega) fun x Φ' sub hx => ?_
      exact h _ _ sub (.pl hx (du.mono sub))
  | @li a =>
    obtain ⟨t, o, v₁, v₂, v₃, rfl, hm, ho, d₁, d₂, d₃⟩ := tup3 hd
    obtain ⟨t₁, rfl⟩ := dStr d₁
    obtain ⟨t₂, rfl⟩ := dInt d₂
    walk_at "w"
    refine ⟨t, o, _, _, _, rfl, mem_led hm, ho, ?_⟩
    walk_at "w"
    refine mk_li (by omega) fun x Φ' sub hx => ?_
    exact h _ _ sub (.li hx)
end

end

section
-- part facts

structure IsiOk (w : World) (D : Addr) : Prop where
  k1 : plainGet (hd.heap_39 w.params) D "__class__" = true
  k2 : hasDictIn (hd.heap_39 w.params) D = true
  k3 : findIn (hd.heap_39 w.params) (.ref D) "__class__" = some (some (.builtin "object.__class__"))
  k4 : specialIn (hd.heap_39 w.params) (.builtin "object.__class__") "__get__" = some (some (.builtin "getset_descriptor.__get__"))
  k5 : takesIn (hd.heap_39 w.params) (.builtin "object.__class__") = some true
  k6 : mroIn (hd.heap_39 w.params) D (.type "object") = some true
structure AttrOk (w : World) (C : Addr) (name : PySem.Str) : Prop where
  hg : plainGet (hd.heap_39 w.params) C name = true
  hh : hasDictIn (hd.heap_39 w.params) C = true
  ha : ∃ attr, findIn (hd.heap_39 w.params) (.ref C) name = some attr ∧ noGet (hd.heap_39 w.params) attr = true
section
variable {c : Cx} {m : Loc} {M Φ : Led} {Q : Value → Loc → Led → Led → Prop}
theorem isJ {x D C : Addr} {fs : List (PySem.Str × Value)} {b : Bool} (h0 : Ins Φ x D fs) (k : IsiOk c.w D) (k7 : kitOne (hd.heap_39 c.w.params) (.ref D) (.ref C) = some b) (h : Q (.bool b) m M Φ) : EW c (call (.builtin "isinstance") [.ref x, .ref C]) m M Φ Q :=
  isI h0 k.k1 k.k2 k.k3 k.k4 k.k5 k.k6 k7 h
theorem gJ {x C : Addr} {fs : List (PySem.Str × Value)} {name : PySem.Str} {v : Value} {expr : Bool} (h0 : Ins Φ x C fs) (k : AttrOk c.w C name) (hv : getF name fs = some v) (hi : handedIn v = true) (h : Q v m M Φ) : EW c (getAttr (.ref x) name expr) m M Φ Q := by
  obtain ⟨attr, ha, hn⟩ := k.ha
  exact gI h0 k.hg k.hh ha hn hv hi h
theorem gB {x C dx : Addr} {es : List DictEntry} {n : Nat} {fs : List (PySem.Str × Value)} {name : PySem.Str} {v : Value} {expr : Bool} (h1 : (x, instObj C dx) ∈ M ++ Φ) (h2 : (dx, dictOf es n) ∈ M ++ Φ) (F : Flds es fs) (k : AttrOk c.w C name) (hv : getF name fs = some v) (hi : handedIn v = true) (h : Q v m M Φ) : EW c (getAttr (.ref x) name expr) m M Φ Q := by
  obtain ⟨attr, ha, hn⟩ := k.ha
  exact gA h1 h2 F k.hg k.hh ha hn hv hi h
end
theorem k4_all (w : World) : specialIn (hd.heap_39 w.params) (.builtin "object.__class__") "__get__" = some (some (.builtin "getset_descriptor.__get__")) := by k_is
theorem k5_all (w : World) : takesIn (hd.heap_39 w.params) (.builtin "object.__class__") = some true := by k_is
theorem isi_fn (w : World) : IsiOk w 64 := ⟨by k_is, by k_is, by k_is, k4_all w, k5_all w, by k_is⟩
theorem at_fn_code (w : World) : AttrOk w 64 "code" := ⟨by k_is, by k_is, _, by k_is, by k_is⟩
theorem at_fn_captured (w : World) : AttrOk w 64 "captured" := ⟨by k_is, by k_is, _, by k_is, by k_is⟩
theorem isi_th (w : World) : IsiOk w 106 := ⟨by k_is, by k_is, by k_is, k4_all w, k5_all w, by k_is⟩
theorem at_th_code (w : World) : AttrOk w 106 "code" := ⟨by k_is, by k_is, _, by k_is, by k_is⟩
theorem at_th_captured (w : World) : AttrOk w 106 "captured" := ⟨by k_is, by k_is, _, by k_is, by k_is⟩
theorem isi_pa (w : World) : IsiOk w 85 := ⟨by k_is, by k_is, by k_is, k4_all w, k5_all w, by k_is⟩
theorem at_pa_address (w : World) : AttrOk w 85 "address" := ⟨by k_is, by k_is, _, by k_is, by k_is⟩
theorem at_pa_values (w : World) : AttrOk w 85 "values" := ⟨by k_is, by k_is, _, by k_is, by k_is⟩
theorem isi_da (w : World) : IsiOk w 183 := ⟨by k_is, by k_is, by k_is, k4_all w, k5_all w, by k_is⟩
theorem at_da_con (w : World) : AttrOk w 183 "con" := ⟨by k_is, by k_is, _, by k_is, by k_is⟩
theorem at_da_values (w : World) : AttrOk w 183 "values" := ⟨by k_is, by k_is, _, by k_is, by k_is⟩
theorem isi_ho (w : World) : IsiOk w 120 := ⟨by k_is, by k_is, by k_is, k4_all w, k5_all w, by k_is⟩
theorem isi_pl (w : World) : IsiOk w 162 := ⟨by k_is, by k_is, by k_is, k4_all w, k5_all w, by k_is⟩
theorem at_pl_value (w : World) : AttrOk w 162 "value" := ⟨by k_is, by k_is, _, by k_is, by k_is⟩
theorem isi_li (w : World) : IsiOk w 141 := ⟨by k_is, by k_is, by k_is, k4_all w, k5_all w, by k_is⟩
theorem at_li_address (w : World) : AttrOk w 141 "address" := ⟨by k_is, by k_is, _, by k_is, by k_is⟩
theorem at_232_cells (w : World) : AttrOk w 232 "cells" := ⟨by k_is, by k_is, _, by k_is, by k_is⟩
theorem at_232_next (w : World) : AttrOk w 232 "next" := ⟨by k_is, by k_is, _, by k_is, by k_is⟩
theorem at_300_heap (w : World) : AttrOk w 300 "heap" := ⟨by k_is, by k_is, _, by k_is, by k_is⟩
theorem at_300_fresh (w : World) : AttrOk w 300 "fresh" := ⟨by k_is, by k_is, _, by k_is, by k_is⟩
theorem at_300_moved (w : World) : AttrOk w 300 "moved" := ⟨by k_is, by k_is, _, by k_is, by k_is⟩
theorem at_300_waiting (w : World) : AttrOk w 300 "waiting" := ⟨by k_is, by k_is, _, by k_is, by k_is⟩
theorem kit_fn_fn (w : World) : kitOne (hd.heap_39 w.params) (.ref 64) (.ref 64) = some true := by kernel_rfl
theorem kit_fn_th (w : World) : kitOne (hd.heap_39 w.params) (.ref 64) (.ref 106) = some false := by kernel_rfl
theorem kit_fn_pa (w : World) : kitOne (hd.heap_39 w.params) (.ref 64) (.ref 85) = some false := by kernel_rfl
theorem kit_fn_da (w : World) : kitOne (hd.heap_39 w.params) (.ref 64) (.ref 183) = some false := by kernel_rfl
theorem kit_fn_ho (w : World) : kitOne (hd.heap_39 w.params) (.ref 64) (.ref 120) = some false := by kernel_rfl
theorem kit_fn_pl (w : World) : kitOne (hd.heap_39 w.params) (.ref 64) (.ref 162) = some false := by kernel_rfl
theorem kit_fn_li (w : World) : kitOne (hd.heap_39 w.params) (.ref 64) (.ref 141) = some false := by kernel_rfl
theorem kit_th_fn (w : World) : kitOne (hd.heap_39 w.params) (.ref 106) (.ref 64) = some false := by kernel_rfl
theorem kit_th_th (w : World) : kitOne (hd.heap_39 w.params) (.ref 106) (.ref 106) = some true := by kernel_rfl
theorem kit_th_pa (w : World) : kitOne (hd.heap_39 w.params) (.ref 106) (.ref 85) = some false := by kernel_rfl
theorem kit_th_da (w : World) : kitOne (hd.heap_39 w.params) (.ref 106) (.ref 183) = some false := by kernel_rfl
theorem kit_th_ho (w : World) : kitOne (hd.heap_39 w.params) (.ref 106) (.ref 120) = some false := by kernel_rfl
theorem kit_th_pl (w : World) : kitOne (hd.heap_39 w.params) (.ref 106) (.ref 162) = some false := by kernel_rfl
theorem kit_th_li (w : World) : kitOne (hd.heap_39 w.params) (.ref 106) (.ref 141) = some false := by kernel_rfl
theorem kit_pa_fn (w : World) : kitOne (hd.heap_39 w.params) (.ref 85) (.ref 64) = some false := by kernel_rfl
theorem kit_pa_th (w : World) : kitOne (hd.heap_39 w.params) (.ref 85) (.ref 106) = some false := by kernel_rfl
theorem kit_pa_pa (w : World) : kitOne (hd.heap_39 w.params) (.ref 85) (.ref 85) = some true := by kernel_rfl
theorem kit_pa_da (w : World) : kitOne (hd.heap_39 w.params) (.ref 85) (.ref 183) = some false := by kernel_rfl
theorem kit_pa_ho (w : World) : kitOne (hd.heap_39 w.params) (.ref 85) (.ref 120) = some false := by kernel_rfl
theorem kit_pa_pl (w : World) : kitOne (hd.heap_39 w.params) (.ref 85) (.ref 162) = some false := by kernel_rfl
theorem kit_pa_li (w : World) : kitOne (hd.heap_39 w.params) (.ref 85) (.ref 141) = some false := by kernel_rfl
theorem kit_da_fn (w : World) : kitOne (hd.heap_39 w.params) (.ref 183) (.ref 64) = some false := by kernel_rfl
theorem kit_da_th (w : World) : kitOne (hd.heap_39 w.params) (.ref 183) (.ref 106) = some false := by kernel_rfl
theorem kit_da_pa (w : World) : kitOne (hd.heap_39 w.params) (.ref 183) (.ref 85) = some false := by kernel_rfl
theorem kit_da_da (w : World) : kitOne (hd.heap_39 w.params) (.ref 183) (.ref 183) = some true := by kernel_rfl
theorem kit_da_ho (w : World) : kitOne (hd.heap_39 w.params) (.ref 183) (.ref 120) = some false := by kernel_rfl
theorem kit_da_pl (w : World) : kitOne (hd.heap_39 w.params) (.ref 183) (.ref 162) = some false := by kernel_rfl
theorem kit_da_li (w : World) : kitOne (hd.heap_39 w.params) (.ref 183) (.ref 141) = some false := by kernel_rfl
theorem kit_ho_fn (w : World) : kitOne (hd.heap_39 w.params) (.ref 120) (.ref 64) = some false := by kernel_rfl
theorem kit_ho_th (w : World) : kitOne (hd.heap_39 w.params) (.ref 120) (.ref 106) = some false := by kernel_rfl
theorem kit_ho_pa (w : World) : kitOne (hd.heap_39 w.params) (.ref 120) (.ref 85) = some false := by kernel_rfl
theorem kit_ho_da (w : World) : kitOne (hd.heap_39 w.params) (.ref 120) (.ref 183) = some false := by kernel_rfl
theorem kit_ho_ho (w : World) : kitOne (hd.heap_39 w.params) (.ref 120) (.ref 120) = some true := by kernel_rfl
theorem kit_ho_pl (w : World) : kitOne (hd.heap_39 w.params) (.ref 120) (.ref 162) = some false := by kernel_rfl
theorem kit_ho_li (w : World) : kitOne (hd.heap_39 w.params) (.ref 120) (.ref 141) = some false := by kernel_rfl
theorem kit_pl_fn (w : World) : kitOne (hd.heap_39 w.params) (.ref 162) (.ref 64) = some false := by kernel_rfl
theorem kit_pl_th (w : World) : kitOne (hd.heap_39 w.params) (.ref 162) (.ref 106) = some false := by kernel_rfl
theorem kit_pl_pa (w : World) : kitOne (hd.heap_39 w.params) (.ref 162) (.ref 85) = some false := by kernel_rfl
theorem kit_pl_da (w : World) : kitOne (hd.heap_39 w.params) (.ref 162) (.ref 183) = some false := by kernel_rfl
theorem kit_pl_ho (w : World) : kitOne (hd.heap_39 w.params) (.ref 162) (.ref 120) = some false := by kernel_rfl
theorem kit_pl_pl (w : World) : kitOne (hd.heap_39 w.params) (.ref 162) (.ref 162) = some true := by kernel_rfl
theorem kit_pl_li (w : World) : kitOne (hd.heap_39 w.params) (.ref 162) (.ref 141) = some false := by kernel_rfl
theorem kit_li_fn (w : World) : kitOne (hd.heap_39 w.params) (.ref 141) (.ref 64) = some false := by kernel_rfl
theorem kit_li_th (w : World) : kitOne (hd.heap_39 w.params) (.ref 141) (.ref 106) = some false := by kernel_rfl
theorem kit_li_pa (w : World) : kitOne (hd.heap_39 w.params) (.ref 141) (.ref 85) = some false := by kernel_rfl
theorem kit_li_da (w : World) : kitOne (hd.heap_39 w.params) (.ref 141) (.ref 183) = some false := by kernel_rfl
theorem kit_li_ho (w : World) : kitOne (hd.heap_39 w.params) (.ref 141) (.ref 120) = some false := by kernel_rfl
theorem kit_li_pl (w : World) : kitOne (hd.heap_39 w.params) (.ref 141) (.ref 162) = some false := by kernel_rfl
theorem kit_li_li (w : World) : kitOne (hd.heap_39 w.params) (.ref 141) (.ref 141) = some true := by kernel_rfl

end

section
-- part lawrow
section
variable {c : Cx} {m : Loc} {M Φ : Led} {Q : Value → Loc → Led → Led → Prop}
theorem szl {n : Nat} (h : n ≤ 2 ^ 20 := by decide) : n ≤ sizeLine := by rw [sizeLine_eq]; omega

theorem law_row {v : Value} {cell : Cell} (hn : 4 ≤ c.n) (hc : CellV Φ v cell) (hz : cell.vals.length ≤ 1000) (h : ∀ u Φ', (∀ p ∈ Φ, p ∈ Φ') → DatIn Φ' u cell.out → Q u m M Φ') : EW c (call (.ref 356) [v]) m M Φ Q := by
  refine call_def (f := 356) (binds := [("cell", v)]) (by k_is) (by k_is) (by omega) (by rfl) (locs rfl) rfl rfl rfl (by decide) fun c' hw hn' _ => ?_
  cases hc with
  | @fn x s t u vs hx hd =>
    obtain ⟨l, n, us, rfl, hl, da⟩ := dList hd
    have hz : vs.length ≤ 1000 := hz
    have hlen := da.length
    rw [List.length_map] at hlen
    walk_at "w"
    refine isJ hx (isi_fn _) (kit_fn_fn _) ?_
    walk_at "w"
    refine gJ hx (at_fn_code _) rfl rfl ?_
    walk_at "w"
    refine gJ hx (at_fn_captured _) rfl rfl ?_
    walk_at "w"
    refine copyL ⟨_, LO.lo, .inl hl⟩ (by omega) fun D n' hlt => ?_
    refine EW.frozen ?_
    walk_at "w"
    refine newT (szl (by simp)) fun l' _ => ?_
    refine h _ _ (fun p hp => .tail _ (.tail _ hp)) (.tuple (.head _) (.cons (.str _ _) (.cons (.str _ _) (.cons (.list (.tail _ (.head _)) (da.mono fun p hp => .tail _ (.tail _ hp))) .nil))))
  | @th x s t u vs hx hd =>
    obtain ⟨l, n, us, rfl, hl, da⟩ := dList hd
    have hz : vs.length ≤ 1000 := hz
    have hlen := da.length
    rw [List.length_map] at hlen
    walk_at "w"
    refine isJ hx (isi_th _) (kit_th_fn _) ?_
    walk_at "w"
    refine isJ hx (isi_th _) (kit_th_th _) ?_
    walk_at "w"
    refine gJ hx (at_th_code _) rfl rfl ?_
    walk_at "w"
    refine gJ hx (at_th_captured _) rfl rfl ?_
    walk_at "w"
    refine copyL ⟨_, LO.lo, .inl hl⟩ (by omega) fun D n' hlt => ?_
    refine EW.frozen ?_
    walk_at "w"
    refine newT (szl (by simp)) fun l' _ => ?_
    refine h _ _ (fun p hp => .tail _ (.tail _ hp)) (.tuple (.head _) (.cons (.str _ _) (.cons (.str _ _) (.cons (.list (.tail _ (.head _)) (da.mono fun p hp => .tail _ (.tail _ hp))) .nil))))
  | @pa x t u vs a hx hd =>
    obtain ⟨l, n, us, rfl, hl, da⟩ := dList hd
    have hz : vs.length ≤ 1000 := hz
    have hlen := da.length
    rw [List.length_map] at hlen
    walk_at "w"
    refine isJ hx (isi_pa _) (kit_pa_fn _) ?_
    walk_at "w"
    refine isJ hx (isi_pa _) (kit_pa_th _) ?_
    walk_at "w"
    refine isJ hx (isi_pa _) (kit_pa_pa _) ?_
    walk_at "w"
    refine gJ hx (at_pa_address _) rfl rfl ?_
    walk_at "w"
    refine gJ hx (at_pa_values _) rfl rfl ?_
    walk_at "w"
    refine copyL ⟨_, LO.lo, .inl hl⟩ (by omega) fun D n' hlt => ?_
    refine EW.frozen ?_
    walk_at "w"
    refine newT (szl (by simp)) fun l' _ => ?_
    refine h _ _ (fun p hp => .tail _ (.tail _ hp)) (.tuple (.head _) (.cons (.str _ _) (.cons (.int _ _) (.cons (.list (.tail _ (.head _)) (da.mono fun p hp => .tail _ (.tail _ hp))) .nil))))
  | @da x s t u vs hx hd =>
    obtain ⟨l, n, us, rfl, hl, da⟩ := dList hd
    have hz : vs.length ≤ 1000 := hz
    have hlen := da.length
    rw [List.length_map] at hlen
    walk_at "w"
    refine isJ hx (isi_da _) (kit_da_fn _) ?_
    walk_at "w"
    refine isJ hx (isi_da _) (kit_da_th _) ?_
    walk_at "w"
    refine isJ hx (isi_da _) (kit_da_pa _) ?_
    walk_at "w"
    refine isJ hx (isi_da _) (kit_da_da _) ?_
    walk_at "w"
    refine gJ hx (at_da_con _) rfl rfl ?_
    walk_at "w"
    refine gJ hx (at_da_values _) rfl rfl ?_
    walk_at "w"
    refine copyL ⟨_, LO.lo, .inl hl⟩ (by omega) fun D n' hlt => ?_
    refine EW.frozen ?_
    walk_at "w"
    refine newT (szl (by simp)) fun l' _ => ?_
    refine h _ _ (fun p hp => .tail _ (.tail _ hp)) (.tuple (.head _) (.cons (.str _ _) (.cons (.str _ _) (.cons (.list (.tail _ (.head _)) (da.mono fun p hp => .tail _ (.tail _ hp))) .nil))))
  | @pl x u v hx hd =>
    walk_at "w"
    refine isJ hx (isi_pl _) (kit_pl_fn _) ?_
    walk_at "w"
    refine isJ hx (isi_pl _) (kit_pl_th _) ?_
    walk_at "w"
    refine isJ hx (isi_pl _) (kit_pl_pa _) ?_
    walk_at "w"
    refine isJ hx (isi_pl _) (kit_pl_da _) ?_
    walk_at "w"
    refine isJ hx (isi_pl _) (kit_pl_pl _) ?_
    walk_at "w"
    refine gJ hx (at_pl_value _) rfl hd.handed ?_
    walk_at "w"
    refine newL (szl (by simp)) fun l _ => ?_
    walk_at "w"
    refine newT (szl (by simp)) fun l' _ => ?_
    refine h _ _ (fun p hp => .tail _ (.tail _ hp)) (.tuple (.head _) (.cons (.str _ _) (.cons .none (.cons (.list (.tail _ (.head _)) (.cons (hd.mono fun p hp => .tail _ (.tail _ hp)) .nil)) .nil))))
  | @li x t a hx =>
    walk_at "w"
    refine isJ hx (isi_li _) (kit_li_fn _) ?_
    walk_at "w"
    refine isJ hx (isi_li _) (kit_li_th _) ?_
    walk_at "w"
    refine isJ hx (isi_li _) (kit_li_pa _) ?_
    walk_at "w"
    refine isJ hx (isi_li _) (kit_li_da _) ?_
    walk_at "w"
    refine isJ hx (isi_li _) (kit_li_pl _) ?_
    walk_at "w"
    refine isJ hx (isi_li _) (kit_li_li _) ?_
    walk_at "w"
    refine gJ hx (at_li_address _) rfl rfl ?_
    walk_at "w"
    refine newL (szl (by simp)) fun l _ => ?_
    walk_at "w"
    refine newT (szl (by simp)) fun l' _ => ?_
    refine h _ _ (fun p hp => .tail _ (.tail _ hp)) (.tuple (.head _) (.cons (.str _ _) (.cons (.int _ _) (.cons (.list (.tail _ (.head _)) .nil) .nil))))
  | @ho x hx =>
    walk_at "w"
    refine isJ hx (isi_ho _) (kit_ho_fn _) ?_
    walk_at "w"
    refine isJ hx (isi_ho _) (kit_ho_th _) ?_
    walk_at "w"
    refine isJ hx (isi_ho _) (kit_ho_pa _) ?_
    walk_at "w"
    refine isJ hx (isi_ho _) (kit_ho_da _) ?_
    walk_at "w"
    refine isJ hx (isi_ho _) (kit_ho_pl _) ?_
    walk_at "w"
    refine isJ hx (isi_ho _) (kit_ho_li _) ?_
    walk_at "w"
    refine newL (szl (by simp)) fun l _ => ?_
    walk_at "w"
    refine newT (szl (by simp)) fun l' _ => ?_
    refine h _ _ (fun p hp => .tail _ (.tail _ hp)) (.tuple (.head _) (.cons (.str _ _) (.cons .none (.cons (.list (.tail _ (.head _)) .nil) .nil))))
end

end

section
-- part take
def SrcOk (o : Obj) : Prop := ∃ b x t u, LO o [.int b t, .int x u] ∧ 0 ≤ b ∧ 0 ≤ x ∧ x < 2147483647

theorem take_spec {c : Cx} {m : Loc} {M Φ : Led} {i : Nat} {src : Addr} {o : Obj} {top : Int} {t : Tok} {Q : Value → Loc → Led → Led → Prop} (hn : 1 ≤ c.n) (h1 : M[i]? = some (src, o)) (ho : SrcOk o) (ht : 1 ≤ top) (ht2 : top ≤ 1000)
    (h : ∀ d u o', 0 ≤ d → d < top → SrcOk o' → Q (.int d u) m (M.set i (src, o')) Φ) : EW c (call (.ref 330) [.ref src, .int top t]) m M Φ Q := by
  refine call_def (f := 330) (binds := [("source", .ref src), ("top", .int top t)]) (by k_is) (by k_is) hn (by rfl) (locs rfl) rfl rfl rfl (by decide) fun c' hw hn' _ => ?_
  obtain ⟨b, x, t1, t2, hL, hb0, hx0, hx1⟩ := ho
  have hil : i < M.length := by
    rcases Nat.lt_or_ge i M.length with h | h
    · exact h
    · rw [List.getElem?_eq_none h] at h1; cases h1
  walk_at "w"
  refine yL (mem_of_get h1) hL (by decide) (by decide) rfl ?_
  walk_at "w"
  split
  · rename_i hb
    have hb := of_decide_eq_true hb
    walk_at "w"
    refine yL (mem_of_get h1) hL (by decide) (by decide) rfl ?_
    walk_at "w"
    refine iMod (by omega) fun _ => ?_
    walk_at "w"
    refine yL (mem_of_get h1) hL (by decide) (by decide) rfl ?_
    walk_at "w"
    refine iDiv (by omega) (by omega) fun _ => ?_
    walk_at "w"
    refine setL h1 hL (by decide) (by decide) (by simp) fun o' ho' => ?_
    walk_at "w"
    exact h _ _ _ (Int.fmod_nonneg_of_pos _ (by omega)) (Int.fmod_lt_of_pos _ (by omega)) ⟨_, _, _, _, ho', by rw [Int.fdiv_eq_ediv_of_nonneg _ (by omega)]; exact Int.ediv_nonneg (by omega) (by omega), hx0, hx1⟩
  · walk_at "w"
    refine yL (mem_of_get h1) hL (by decide) (by decide) rfl ?_
    walk_at "w"
    refine iMul (fun _ => ?_) (.of_right (by decide))
    walk_at "w"
    refine iMod (by decide) fun _ => ?_
    walk_at "w"
    have k0 : 0 ≤ (x * 39373 + 7).fmod 2147483647 := Int.fmod_nonneg_of_pos _ (by decide)
    have k1 : (x * 39373 + 7).fmod 2147483647 < 2147483647 := Int.fmod_lt_of_pos _ (by decide)
    generalize (x * 39373 + 7).fmod 2147483647 = y at k0 k1
    refine setL h1 hL (by decide) (by decide) (by simp) fun o' ho' => ?_
    have hget : (M.set i (src, o'))[i]? = some (src, o') := by rw [List.getElem?_set_self hil]
    walk_at "w"
    refine yL (mem_of_get hget) ho' (by decide) (by decide) rfl ?_
    walk_at "w"
    refine yL (mem_of_get hget) ho' (by decide) (by decide) rfl ?_
    walk_at "w"
    refine iMul (fun _ => ?_) (.of_right ?_)
    · walk_at "w"
      refine iMod (by decide) fun _ => ?_
      walk_at "w"
      refine iDiv (by decide) (by decide) fun _ => ?_
      walk_at "w"
      refine iMod (by omega) fun _ => ?_
      exact h _ _ _ (Int.fmod_nonneg_of_pos _ (by omega)) (Int.fmod_lt_of_pos _ (by omega)) ⟨_, _, _, _, ho', hb0, k0, k1⟩
    · unfold Builtin.Int.intBits
      split
      · decide
      · rename_i hne
        have : y.natAbs.log2 < 31 := (Nat.log2_lt (by intro e; apply hne; simp; omega)).mpr (by omega)
        omega

end

section
-- part lawpool
section
variable {c : Cx} {m : Loc} {M Φ : Led} {Q : Value → Loc → Led → Led → Prop}
theorem law_pool {l : Addr} {vs : List Value} {ns : List Int} (hn : 1 ≤ c.n) (hs : SrcAt c Φ l vs) (hi : IntsAre vs ns) (hz : ns.length ≤ 63) (h : ∀ D o Φ', (∀ p ∈ Φ, p ∈ Φ') → (∀ p ∈ M, p.1 < D) → SrcOk o → Q (.ref D) m ((D, o) :: M) Φ') :
    EW c (call (.ref 323) [.ref l]) m M Φ Q := by
  refine call_def (f := 323) (binds := [("script", .ref l)]) (by k_is) (by k_is) (by omega) (by rfl) (locs rfl) rfl rfl rfl (by decide) fun c' hw hn' keep => ?_
  have hs : SrcAt c' Φ l vs := by
    obtain ⟨o, ho, h | h⟩ := hs
    · exact ⟨o, ho, .inl h⟩
    · exact ⟨o, ho, .inr (keep _ _ h)⟩
  have hlen := hi.length
  refine execs_cons (EW.mono (Q := fun f m' M' Φ' => f = .next ∧ M' = M ∧ Φ' = Φ ∧ ∃ b t, Locs m' [("script", .ref l), ("big", .int b t)]) ?_ ?_)
  · walk_at "w"
    refine lenS hs (by omega) fun _ => ?_
    walk_at "w"
    split
    · rename_i hb
      have hb := of_decide_eq_true hb
      walk_at "w"
      have h0 : 0 < ns.length := by omega
      obtain ⟨t, ht⟩ := hi.get 0 ns[0] (by simp [h0])
      refine yS hs (by decide) (by decide) ht ?_
      walk_at "w"
      exact ⟨rfl, rfl, rfl, _, _, by walk_at "lk", by walk_at "lk", trivial⟩
    · walk_at "w"
      exact ⟨rfl, rfl, rfl, _, _, by walk_at "lk", by walk_at "lk", trivial⟩
  rintro f m₁ M₁ Φ₁ _ ⟨rfl, rfl, rfl, b, t, hL⟩
  refine execs_cons (EW.mono (Q := fun f m' M' Φ' => f = .next ∧ M' = M₁ ∧ Φ' = Φ₁ ∧ ∃ b t, 0 ≤ b ∧ Locs m' [("script", .ref l), ("big", .int b t)]) ?_ ?_)
  · walk_at "w"
    split
    · rename_i hb
      have hb := of_decide_eq_true hb
      walk_at "w"
      exact ⟨rfl, rfl, rfl, 0 - b, _, by omega, by walk_at "lk", by walk_at "lk", trivial⟩
    · rename_i hb
      walk_at "w"
      exact ⟨rfl, rfl, rfl, b, t, by simpa using hb, by walk_at "lk", by walk_at "lk", trivial⟩
  rintro f m₂ M₂ Φ₂ _ ⟨rfl, rfl, rfl, b', t', hb', hL₂⟩
  clear hL
  walk_at "w"
  refine iMod (by decide) fun _ => ?_
  walk_at "w"
  have k0 : 0 ≤ b'.fmod 2147483629 := Int.fmod_nonneg_of_pos _ (by decide)
  have k1 : b'.fmod 2147483629 < 2147483629 := Int.fmod_lt_of_pos _ (by decide)
  generalize b'.fmod 2147483629 = y at k0 k1
  refine EW.mono (Q := fun f m' M' Φ' => f = .next ∧ M' = M₂ ∧ (∀ p ∈ Φ₂, p ∈ Φ') ∧ ∃ x u, 0 ≤ x ∧ x < 2147483647 ∧ Locs m' [("script", .ref l), ("big", .int b' t'), ("mixed", .int x u)]) ?_ ?_
  · refine For_range ?_
    walk_at "w"
    refine lenS hs (by omega) fun _ => ?_
    walk_at "w"
    refine min2 fun _ => ?_
    walk_at "w"
    have hmin : 0 ≤ (if (20 : Int) < (vs.length : Nat) then (20 : Int) else (vs.length : Nat)) ∧ (if (20 : Int) < (vs.length : Nat) then (20 : Int) else (vs.length : Nat)) ≤ 20 ∧ (if (20 : Int) < (vs.length : Nat) then (20 : Int) else (vs.length : Nat)) ≤ (vs.length : Nat) := by split <;> omega
    generalize (if (20 : Int) < (vs.length : Nat) then (20 : Int) else (vs.length : Nat)) = e at hmin
    refine newR fun r o t1 u1 v1 hr => ?_
    obtain ⟨q1, q2⟩ := small1 (b := e) (by omega) (by omega)
    refine ⟨r, o, e, t1, u1, v1, e.toNat, fun i m' M' Φ' => M' = M₂ ∧ ∃ x u, 0 ≤ x ∧ x < 2147483647 ∧ Locs m' [("script", .ref l), ("big", .int b' t'), ("mixed", .int x u)], rfl, .head _, hr, q1, q2, ⟨?_, ?_, ?_⟩⟩
    · exact ⟨rfl, y + 17, _, by omega, by omega, by walk_at "lk", by walk_at "lk", by walk_at "lk", trivial⟩
    · rintro i v m' M' Φ' R hi' ⟨tv, rfl⟩ sub ⟨rfl, x, u, hx0, hx1, hL₃⟩
      clear hL₂
      walk_at "w"
      refine iMul (fun _ => ?_) (mulSmall (by decide) _)
      walk_at "w"
      have hi2 : i < ns.length := by omega
      obtain ⟨t₄, ht₄⟩ := hi.get i ns[i] (by simp [hi2])
      refine yS (hs.sub fun p hp => sub _ (.tail _ hp)) (by omega) (by omega) (by simpa using ht₄) ?_
      walk_at "w"
      refine iMod (by decide) fun _ => ?_
      walk_at "w"
      refine iMul (fun _ => ?_) (mulSmall (by omega) _)
      walk_at "w"
      refine iMod (by decide) fun _ => ?_
      walk_at "w"
      exact ⟨M', rfl, rfl, _, _, Int.fmod_nonneg_of_pos _ (by decide), Int.fmod_lt_of_pos _ (by decide), by walk_at "lk", by walk_at "lk", by walk_at "lk", trivial⟩
    · rintro m' M' Φ' sub ⟨rfl, x, u, hx0, hx1, hL₃⟩
      exact ⟨rfl, rfl, fun p hp => sub p (.tail _ hp), x, u, hx0, hx1, hL₃⟩
  rintro f m₃ M₃ Φ₃ _ ⟨rfl, rfl, sub, x, u, hx0, hx1, hL₃⟩
  clear hL₂
  walk_at "w"
  refine iPow (by decide) (by decide) (by decide) fun _ => ?_
  walk_at "w"
  split
  · walk_at "w"
    refine newLM (szl (by simp)) fun D hD => ?_
    exact h D _ Φ₃ sub (fun p hp => hD p (List.mem_append_left _ hp)) ⟨b', x, _, _, LO.lo, hb', hx0, hx1⟩
  · walk_at "w"
    refine newLM (szl (by simp)) fun D hD => ?_
    exact h D _ Φ₃ sub (fun p hp => hD p (List.mem_append_left _ hp)) ⟨0, x, _, _, LO.lo, by decide, hx0, hx1⟩
end

end

section
-- part LzPure

-- the plain law
def Cell.isLi : Cell → Bool
  | .li _ => true
  | _ => false
def V.wf (n : Nat) : V → Prop
  | .at a => a < n
  | .ch x => PyData.strOk x = true
  | .int _ => True
def Cell.wf (n i : Nat) : Cell → Prop
  | .pa a vs => a < n ∧ ∀ v ∈ vs, v.wf n
  | .li a => a < i
  | .fn s vs | .th s vs | .da s vs => PyData.strOk s = true ∧ ∀ v ∈ vs, v.wf n
  | .ho => True
  | .pl v => v.wf n
structure WF (rows : List Cell) : Prop where
  cell : ∀ (i : Nat) (c : Cell), rows[i]? = some c → c.wf rows.length i
  vals : ∀ (i : Nat) (c : Cell), rows[i]? = some c → c.vals.length ≤ 3
  many : rows.length ≤ 9

def endN (rows : List Cell) : Nat → Nat → Nat
  | 0, a => a
  | k + 1, a => match rows[a]? with
    | some (.li b) => endN rows k b
    | _ => a
def endOf (rows : List Cell) (a : Nat) : Nat := endN rows (a + 1) a

theorem lt_of_get {α : Type} {l : List α} {i : Nat} {x : α} (h : l[i]? = some x) : i < l.length := by
  rcases Nat.lt_or_ge i l.length with h' | h'
  · exact h'
  · rw [List.getElem?_eq_none h'] at h; cases h

section
variable {rows : List Cell} (wf : WF rows)
include wf
theorem WF.li {a b : Nat} (h : rows[a]? = some (.li b)) : b < a := wf.cell a _ h
theorem endN_stable : ∀ a k, a < k → endN rows k a = endN rows (a + 1) a := by
  intro a
  induction a using Nat.strongRecOn with
  | _ a ih =>
    intro k hk
    obtain ⟨k, rfl⟩ : ∃ j, k = j + 1 := ⟨k - 1, by omega⟩
    unfold endN
    split
    · rename_i b hb
      have hl := wf.li hb
      rw [ih b hl k (by omega), ih b hl a (by omega)]
    · rfl
theorem endOf_li {a b : Nat} (h : rows[a]? = some (.li b)) : endOf rows a = endOf rows b := by
  have hl := wf.li h
  have e : endOf rows a = endN rows a b := by
    show endN rows (a + 1) a = _
    unfold endN
    rw [h]
    cases a <;> rfl
  rw [e, endN_stable wf b a hl]
  rfl
omit wf in
theorem endOf_stop {a : Nat} {c : Cell} (h : rows[a]? = some c) (hc : c.isLi = false) : endOf rows a = a := by
  show endN rows (a + 1) a = _
  unfold endN
  rw [h]
  cases c <;> first | rfl | cases hc
theorem endOf_spec : ∀ a, a < rows.length → endOf rows a < rows.length ∧ (∃ c, rows[endOf rows a]? = some c ∧ c.isLi = false) := by
  intro a
  induction a using Nat.strongRecOn with
  | _ a ih =>
    intro ha
    by_cases hb : ∃ b, rows[a]? = some (.li b)
    · obtain ⟨b, hb⟩ := hb
      rw [endOf_li wf hb]
      have := wf.li hb
      exact ih b this (by omega)
    · have h : rows[a]? = some rows[a] := List.getElem?_eq_getElem ha
      have hc : rows[a].isLi = false := by
        cases e : rows[a] <;> first | rfl | exact absurd ⟨_, by rw [h, e]⟩ hb
      rw [endOf_stop h hc]
      exact ⟨ha, _, h, hc⟩
theorem endOf_idem {a : Nat} (ha : a < rows.length) : endOf rows (endOf rows a) = endOf rows a := by
  obtain ⟨_, c, h, hc⟩ := endOf_spec wf a ha
  exact endOf_stop h hc
end

def V.refs : V → List Nat
  | .at a => [a]
  | _ => []
def Cell.named : Cell → List Nat
  | .pa a vs => a :: vs.flatMap V.refs
  | .li a => [a]
  | .fn _ vs | .th _ vs | .da _ vs => vs.flatMap V.refs
  | .pl v => v.refs
  | .ho => []
inductive Reach (rows : List Cell) (roots : List Nat) : Nat → Prop
  | root {a : Nat} : a ∈ roots → Reach rows roots a
  | step {a b : Nat} {c : Cell} : Reach rows roots a → rows[a]? = some c → b ∈ c.named → Reach rows roots b

theorem V.refs_lt {n : Nat} {v : V} (h : v.wf n) : ∀ b ∈ v.refs, b < n := by
  cases v with
  | int i => intro b hb; cases hb
  | ch x => intro b hb; cases hb
  | «at» a => intro b hb; rw [List.mem_singleton.mp hb]; exact h
theorem named_lt {rows : List Cell} (wf : WF rows) {a b : Nat} {c : Cell} (h : rows[a]? = some c) (hb : b ∈ c.named) : b < rows.length := by
  have hw := wf.cell a c h
  have hv : ∀ vs : List V, (∀ v ∈ vs, v.wf rows.length) → b ∈ vs.flatMap V.refs → b < rows.length := by
    intro vs hvs hb
    obtain ⟨v, hv, hb⟩ := List.mem_flatMap.mp hb
    exact V.refs_lt (hvs v hv) b hb
  cases c with
  | fn s vs => exact hv vs hw.2 hb
  | th s vs => exact hv vs hw.2 hb
  | da s vs => exact hv vs hw.2 hb
  | pa x vs =>
    rcases List.mem_cons.mp hb with rfl | hb
    · exact hw.1
    · exact hv vs hw.2 hb
  | ho => cases hb
  | pl v => exact V.refs_lt hw b hb
  | li x =>
    rw [List.mem_singleton.mp hb]
    have := wf.li h
    have := lt_of_get h
    omega
theorem Reach.lt {rows : List Cell} (wf : WF rows) {roots : List Nat} (hr : ∀ a ∈ roots, a < rows.length) {a : Nat} (h : Reach rows roots a) : a < rows.length := by
  cases h with
  | root h => exact hr a h
  | step _ h hb => exact named_lt wf h hb
theorem named_len {rows : List Cell} (wf : WF rows) {a : Nat} {c : Cell} (h : rows[a]? = some c) : c.named.length ≤ 4 := by
  have hv : ∀ vs : List V, (vs.flatMap V.refs).length ≤ vs.length := by
    intro vs
    induction vs with
    | nil => exact Nat.le_refl _
    | cons v vs ih =>
      rw [List.flatMap_cons, List.length_append, List.length_cons]
      have : v.refs.length ≤ 1 := by cases v <;> simp [V.refs]
      omega
  have hl := wf.vals a c h
  cases c with
  | fn s vs => exact Nat.le_trans (hv vs) (Nat.le_trans hl (by decide))
  | th s vs => exact Nat.le_trans (hv vs) (Nat.le_trans hl (by decide))
  | da s vs => exact Nat.le_trans (hv vs) (Nat.le_trans hl (by decide))
  | pa x vs =>
    have := hv vs
    have hl : vs.length ≤ 3 := hl
    simp only [Cell.named, List.length_cons]; omega
  | ho => simp [Cell.named]
  | pl v => have : v.refs.length ≤ 1 := by cases v <;> simp [V.refs]
            simp only [Cell.named]; omega
  | li x => simp [Cell.named]

theorem V.map_congr {f g : Nat → Nat} {v : V} (h : ∀ b ∈ v.refs, f b = g b) : v.map f = v.map g := by
  cases v with
  | int i => rfl
  | ch x => rfl
  | «at» a => exact congrArg V.at (h a (.head _))
theorem vals_congr {f g : Nat → Nat} {vs : List V} (h : ∀ b ∈ vs.flatMap V.refs, f b = g b) : vs.map (V.map f) = vs.map (V.map g) :=
  List.map_congr_left fun v hv => V.map_congr fun b hb => h b (List.mem_flatMap.mpr ⟨v, hv, hb⟩)
theorem Cell.map_congr {f g : Nat → Nat} {c : Cell} (h : ∀ b ∈ c.named, f b = g b) : c.map f = c.map g := by
  cases c with
  | fn s vs => exact congrArg (Cell.fn s) (vals_congr h)
  | th s vs => exact congrArg (Cell.th s) (vals_congr h)
  | da s vs => exact congrArg (Cell.da s) (vals_congr h)
  | pa x vs =>
    simp only [Cell.map]
    rw [h x (.head _), vals_congr fun b hb => h b (.tail _ hb)]
  | ho => rfl
  | pl v => exact congrArg Cell.pl (V.map_congr h)
  | li x => rfl

-- the collector's state
structure St where
  W : List Nat
  D : List Nat
  C : List Cell
def mvOf (rows : List Cell) (S : St) (a : Nat) : Nat := S.W.idxOf (endOf rows a)

structure Inv (rows : List Cell) (roots : List Nat) (S : St) : Prop where
  wn : S.W.Nodup
  wd : ∀ e ∈ S.W, e ∈ S.D
  we : ∀ e ∈ S.W, ∃ c, rows[e]? = some c ∧ c.isLi = false
  dn : S.D.Nodup
  dlt : ∀ a ∈ S.D, a < rows.length
  de : ∀ a ∈ S.D, endOf rows a ∈ S.W
  dl : ∀ a ∈ S.D, ∀ b, rows[a]? = some (.li b) → b ∈ S.D
  dr : ∀ a ∈ S.D, Reach rows roots a
  cl : S.C.length = S.W.length

structure Ext (rows : List Cell) (S S' : St) : Prop where
  w : ∃ ws, S'.W = S.W ++ ws ∧ S'.C = S.C ++ ws.map (fun e => rows.getD e .ho)
  d : ∀ a ∈ S.D, a ∈ S'.D

theorem Ext.refl {rows : List Cell} {S : St} : Ext rows S S := ⟨⟨[], by simp, by simp⟩, fun _ h => h⟩
theorem Ext.trans {rows : List Cell} {S S' S'' : St} (h : Ext rows S S') (k : Ext rows S' S'') : Ext rows S S'' := by
  obtain ⟨⟨ws, h1, h2⟩, h3⟩ := h
  obtain ⟨⟨us, k1, k2⟩, k3⟩ := k
  exact ⟨⟨ws ++ us, by rw [k1, h1, List.append_assoc], by rw [k2, h2, List.append_assoc, List.map_append]⟩, fun a ha => k3 a (h3 a ha)⟩

section
variable {rows : List Cell} {roots : List Nat} {S S' : St}
theorem Inv.mv_ext (I : Inv rows roots S) (E : Ext rows S S') {a : Nat} (ha : a ∈ S.D) : mvOf rows S' a = mvOf rows S a := by
  obtain ⟨⟨ws, h1, _⟩, _⟩ := E
  unfold mvOf
  rw [h1, List.idxOf_append, if_pos (I.de a ha)]
theorem Inv.wlt (I : Inv rows roots S) {a : Nat} (ha : a ∈ S.D) : mvOf rows S a < S.W.length := List.idxOf_lt_length_iff.mpr (I.de a ha)
theorem nodup_le {l : List Nat} : ∀ {n : Nat}, l.Nodup → (∀ a ∈ l, a < n) → l.length ≤ n := by
  intro n
  induction n generalizing l with
  | zero =>
    intro _ h
    cases l with
    | nil => exact Nat.le_refl _
    | cons a l => exact absurd (h a (.head _)) (Nat.not_lt_zero _)
  | succ n ih =>
    intro hn h
    have k := ih (l := l.erase n) (hn.erase n) (fun a ha => by
      have h1 := h a (List.mem_of_mem_erase ha)
      have h2 : a ≠ n := fun e => by subst e; exact absurd ha (hn.not_mem_erase)
      omega)
    rw [List.length_erase] at k
    split at k <;> omega
theorem Inv.wmany (I : Inv rows roots S) : S.W.length ≤ rows.length := nodup_le I.wn fun e he => I.dlt e (I.wd e he)
theorem Inv.dmany (I : Inv rows roots S) : S.D.length ≤ rows.length := nodup_le I.dn I.dlt

-- the move's steps
def addD (D : List Nat) (p : Nat) : List Nat := if p ∈ D then D else D ++ [p]
theorem mem_addD {D : List Nat} {p x : Nat} : x ∈ addD D p ↔ x ∈ D ∨ x = p := by
  unfold addD
  split
  · rename_i h
    exact ⟨.inl, fun k => k.elim id fun e => e ▸ h⟩
  · simp
theorem addD_nodup {D : List Nat} {p : Nat} (h : D.Nodup) : (addD D p).Nodup := by
  unfold addD
  split
  · exact h
  · rename_i k
    rw [List.nodup_append]
    exact ⟨h, by simp, fun a ha b hb => by rw [List.mem_singleton.mp hb]; intro e; exact k (e ▸ ha)⟩
theorem mem_fold {x : Nat} : ∀ {ps D : List Nat}, x ∈ ps.foldl addD D ↔ x ∈ D ∨ x ∈ ps
  | [], D => by simp
  | p :: ps, D => by
    rw [List.foldl_cons, mem_fold (ps := ps), mem_addD, List.mem_cons, or_assoc]
theorem fold_nodup : ∀ {ps D : List Nat}, D.Nodup → (ps.foldl addD D).Nodup
  | [], _, h => h
  | _ :: ps, _, h => fold_nodup (ps := ps) (addD_nodup h)

/-- what links_from tells -/
structure Passed (rows : List Cell) (roots : List Nat) (a : Nat) (ps : List Nat) : Prop where
  here : a ∈ ps ∨ a = endOf rows a
  lt : ∀ p ∈ ps, p < rows.length
  fin : ∀ p ∈ ps, endOf rows p = endOf rows a
  rch : ∀ p ∈ ps, Reach rows roots p
  nxt : ∀ p ∈ ps, ∃ b, rows[p]? = some (.li b) ∧ (b ∈ ps ∨ b = endOf rows a)

def withEnd (rows : List Cell) (S : St) (e : Nat) : St := if e ∈ S.D then S else ⟨S.W ++ [e], S.D ++ [e], S.C ++ [rows.getD e .ho]⟩
theorem withEnd_inv (I : Inv rows roots S) {e : Nat} {c : Cell} (h : rows[e]? = some c) (hc : c.isLi = false) (hr : Reach rows roots e) : Inv rows roots (withEnd rows S e) ∧ Ext rows S (withEnd rows S e) ∧ e ∈ (withEnd rows S e).D := by
  unfold withEnd
  split
  · rename_i hm; exact ⟨I, .refl, hm⟩
  · rename_i hm
    have hw : e ∉ S.W := fun k => hm (I.wd e k)
    refine ⟨⟨?_, ?_, ?_, ?_, ?_, ?_, ?_, ?_, ?_⟩, ⟨⟨[e], rfl, rfl⟩, fun a ha => List.mem_append_left _ ha⟩, List.mem_append_right _ (.head _)⟩
    · rw [List.nodup_append]
      exact ⟨I.wn, by simp, fun a ha b hb => by rw [List.mem_singleton.mp hb]; intro k; exact hw (k ▸ ha)⟩
    · intro x hx
      rcases List.mem_append.mp hx with hx | hx
      · exact List.mem_append_left _ (I.wd x hx)
      · exact List.mem_append_right _ hx
    · intro x hx
      rcases List.mem_append.mp hx with hx | hx
      · exact I.we x hx
      · rw [List.mem_singleton.mp hx]; exact ⟨c, h, hc⟩
    · rw [List.nodup_append]
      exact ⟨I.dn, by simp, fun a ha b hb => by rw [List.mem_singleton.mp hb]; intro k; exact hm (k ▸ ha)⟩
    · intro x hx
      rcases List.mem_append.mp hx with hx | hx
      · exact I.dlt x hx
      · rw [List.mem_singleton.mp hx]; exact lt_of_get h
    · intro x hx
      rcases List.mem_append.mp hx with hx | hx
      · exact List.mem_append_left _ (I.de x hx)
      · rw [List.mem_singleton.mp hx, endOf_stop h hc]; exact List.mem_append_right _ (.head _)
    · intro x hx b hb
      rcases List.mem_append.mp hx with hx | hx
      · exact List.mem_append_left _ (I.dl x hx b hb)
      · rw [List.mem_singleton.mp hx, h] at hb
        cases hb; cases hc
    · intro x hx
      rcases List.mem_append.mp hx with hx | hx
      · exact I.dr x hx
      · rw [List.mem_singleton.mp hx]; exact hr
    · show (S.C ++ _).length = (S.W ++ _).length
      rw [List.length_append, List.length_append, I.cl]; rfl
theorem passed_inv (I : Inv rows roots S) {a : Nat} {ps : List Nat} (P : Passed rows roots a ps) (he : endOf rows a ∈ S.D) (hw : endOf rows (endOf rows a) = endOf rows a) :
    Inv rows roots ⟨S.W, ps.foldl addD S.D, S.C⟩ ∧ Ext rows S ⟨S.W, ps.foldl addD S.D, S.C⟩ ∧ a ∈ ps.foldl addD S.D := by
  have hew : endOf rows a ∈ S.W := hw ▸ I.de _ he
  refine ⟨⟨I.wn, fun e k => mem_fold.mpr (.inl (I.wd e k)), I.we, fold_nodup I.dn, ?_, ?_, ?_, ?_, I.cl⟩, ⟨⟨[], by simp, by simp⟩, fun x hx => mem_fold.mpr (.inl hx)⟩, ?_⟩
  · intro x hx
    rcases mem_fold.mp hx with hx | hx
    · exact I.dlt x hx
    · exact P.lt x hx
  · intro x hx
    rcases mem_fold.mp hx with hx | hx
    · exact I.de x hx
    · rw [P.fin x hx]; exact hew
  · intro x hx b hb
    rcases mem_fold.mp hx with hx | hx
    · exact mem_fold.mpr (.inl (I.dl x hx b hb))
    · obtain ⟨b', hb', h⟩ := P.nxt x hx
      rw [hb] at hb'; cases hb'
      rcases h with h | h
      · exact mem_fold.mpr (.inr h)
      · exact mem_fold.mpr (.inl (h ▸ he))
  · intro x hx
    rcases mem_fold.mp hx with hx | hx
    · exact I.dr x hx
    · exact P.rch x hx
  · rcases P.here with h | h
    · exact mem_fold.mpr (.inr h)
    · exact mem_fold.mpr (.inl (h ▸ he))

-- the run
structure RunInv (rows : List Cell) (roots : List Nat) (S : St) (k : Nat) : Prop where
  inv : Inv rows roots S
  hk : k ≤ S.W.length
  did : ∀ (i e : Nat), S.W[i]? = some e → i < k → ∃ c : Cell, rows[e]? = some c ∧ S.C[i]? = some (c.map (mvOf rows S)) ∧ ∀ b ∈ c.named, b ∈ S.D
  raw : ∀ (i e : Nat), S.W[i]? = some e → k ≤ i → S.C[i]? = rows[e]?
theorem RunInv.ext {k : Nat} (R : RunInv rows roots S k) (I' : Inv rows roots S') (E : Ext rows S S') : RunInv rows roots S' k := by
  have I := R.inv
  obtain ⟨⟨ws, h1, h2⟩, h3⟩ := E
  have E : Ext rows S S' := ⟨⟨ws, h1, h2⟩, h3⟩
  have key : ∀ i e, S'.W[i]? = some e → (S.W[i]? = some e ∧ S'.C[i]? = S.C[i]?) ∨ (S.W.length ≤ i ∧ S'.C[i]? = rows[e]?) := by
    intro i e he
    rcases Nat.lt_or_ge i S.W.length with hi | hi
    · refine .inl ⟨?_, ?_⟩
      · rw [h1, List.getElem?_append_left hi] at he; exact he
      · rw [h2, List.getElem?_append_left (by rw [I.cl]; exact hi)]
    · refine .inr ⟨hi, ?_⟩
      rw [h1, List.getElem?_append_right hi] at he
      rw [h2, List.getElem?_append_right (by rw [I.cl]; exact hi), I.cl, List.getElem?_map, he]
      obtain ⟨c, hc, _⟩ := I'.we e (by rw [h1]; exact List.mem_append_right _ (List.mem_of_getElem? he))
      simp [List.getD, hc]
  refine ⟨I', by have := R.hk; rw [h1, List.length_append]; omega, fun i e he hk => ?_, fun i e he hk => ?_⟩
  · rcases key i e he with ⟨hw, hc⟩ | ⟨hi, hc⟩
    · obtain ⟨c, h, hC, hb⟩ := R.did i e hw hk
      refine ⟨c, h, ?_, fun b hb' => h3 b (hb b hb')⟩
      rw [hc, hC]
      exact congrArg some (Cell.map_congr fun b hb' => (I.mv_ext E (hb b hb')).symm)
    · have := R.hk
      omega
  · rcases key i e he with ⟨hw, hc⟩ | ⟨hi, hc⟩
    · rw [hc]; exact R.raw i e hw hk
    · exact hc

theorem RunInv.start (I : Inv rows roots S) (h : ∀ (i e : Nat), S.W[i]? = some e → S.C[i]? = rows[e]?) : RunInv rows roots S 0 := ⟨I, Nat.zero_le _, fun _ _ _ h => absurd h (Nat.not_lt_zero _), fun i e he _ => h i e he⟩
/-- a turn of the run, behind the copy -/
theorem RunInv.next {k e : Nat} {c : Cell} (R : RunInv rows roots S k) (he : S.W[k]? = some e) (hc : rows[e]? = some c) (hb : ∀ b ∈ c.named, b ∈ S.D) :
    RunInv rows roots ⟨S.W, S.D, S.C.set k (c.map (mvOf rows S))⟩ (k + 1) := by
  have I := R.inv
  have hk := lt_of_get he
  refine ⟨⟨I.wn, I.wd, I.we, I.dn, I.dlt, I.de, I.dl, I.dr, by show (S.C.set k _).length = _; rw [List.length_set]; exact I.cl⟩, hk, fun i x hx hi => ?_, fun i x hx hi => ?_⟩
  · rcases Nat.lt_or_ge i k with h | h
    · obtain ⟨c', h1, h2, h3⟩ := R.did i x hx h
      exact ⟨c', h1, by show (S.C.set k _)[i]? = _; rw [List.getElem?_set_ne (by omega)]; exact h2, h3⟩
    · obtain rfl : i = k := by omega
      have hx : S.W[i]? = some x := hx
      rw [he] at hx; cases hx
      exact ⟨c, hc, by show (S.C.set i _)[i]? = _; rw [List.getElem?_set_self (by rw [I.cl]; exact hk)]; rfl, hb⟩
  · have hi : k + 1 ≤ i := hi
    show (S.C.set k _)[i]? = _
    rw [List.getElem?_set_ne (by omega)]
    exact R.raw i x hx (by omega)

/-- what the run ends in -/
structure Done (rows : List Cell) (roots : List Nat) (S : St) : Prop where
  inv : Inv rows roots S
  iff : ∀ a, a ∈ S.D ↔ Reach rows roots a
  cell : ∀ (a : Nat) (c : Cell), a ∈ S.D → rows[a]? = some c → c.isLi = false → S.C[mvOf rows S a]? = some (c.map (mvOf rows S))
  nam : ∀ (a b : Nat) (c : Cell), a ∈ S.D → rows[a]? = some c → b ∈ c.named → b ∈ S.D
theorem RunInv.fin (R : RunInv rows roots S S.W.length) (hr : ∀ a ∈ roots, a ∈ S.D) : Done rows roots S := by
  have I := R.inv
  have at_ : ∀ (a : Nat) (c : Cell), a ∈ S.D → rows[a]? = some c → c.isLi = false → S.W[mvOf rows S a]? = some a := by
    intro a c ha h hc
    have e := endOf_stop h hc
    have hw := I.de a ha
    rw [e] at hw
    unfold mvOf
    rw [e, List.getElem?_eq_getElem (List.idxOf_lt_length_iff.mpr hw), List.getElem_idxOf]
  have nam : ∀ (a b : Nat) (c : Cell), a ∈ S.D → rows[a]? = some c → b ∈ c.named → b ∈ S.D := by
    intro a b c ha h hb
    cases hc : c.isLi with
    | true =>
      cases c <;> first | cases hc | skip
      rename_i x
      rw [List.mem_singleton.mp hb]
      exact I.dl a ha x h
    | false =>
      obtain ⟨c', h', _, hn⟩ := R.did _ a (at_ a c ha h hc) (I.wlt ha)
      rw [h] at h'; cases h'
      exact hn b hb
  refine ⟨I, fun a => ⟨I.dr a, fun h => ?_⟩, fun a c ha h hc => ?_, nam⟩
  · induction h with
    | root h => exact hr _ h
    | step _ h hb ih => exact nam _ _ _ ih h hb
  · obtain ⟨c', h', hC, _⟩ := R.did _ a (at_ a c ha h hc) (I.wlt ha)
    rw [h] at h'; cases h'
    exact hC

theorem Done.inj (d : Done rows roots S) {a b : Nat} {c c' : Cell} (ha : a ∈ S.D) (hb : b ∈ S.D) (h : rows[a]? = some c) (hc : c.isLi = false) (h' : rows[b]? = some c') (hc' : c'.isLi = false) (e : mvOf rows S a = mvOf rows S b) : a = b := by
  have ka := d.inv.de a ha
  have kb := d.inv.de b hb
  unfold mvOf at e
  rw [endOf_stop h hc] at ka e
  rw [endOf_stop h' hc'] at kb e
  have k1 := List.getElem_idxOf (List.idxOf_lt_length_iff.mpr ka)
  have k2 := List.getElem_idxOf (List.idxOf_lt_length_iff.mpr kb)
  rw [← k1, ← k2]
  congr 1

/-- the ends -/
def endsOf (rows : List Cell) (met : List Nat) : List Nat := met.filter fun a => !(rows.getD a .ho).isLi
theorem Done.ends (d : Done rows roots S) {met : List Nat} (hn : met.Nodup) (hm : ∀ a, a ∈ met ↔ Reach rows roots a) : (endsOf rows met).length = S.W.length ∧ (endsOf rows met).Nodup := by
  have hnf : (endsOf rows met).Nodup := List.Pairwise.filter _ hn
  refine ⟨List.Perm.length_eq ((List.perm_ext_iff_of_nodup hnf d.inv.wn).mpr fun a => ?_), hnf⟩
  unfold endsOf
  rw [List.mem_filter, hm a, ← d.iff a]
  constructor
  · rintro ⟨h1, h2⟩
    have hl := d.inv.dlt a h1
    have hg : rows[a]? = some rows[a] := List.getElem?_eq_getElem hl
    have hc : rows[a].isLi = false := by simpa [List.getD, hg] using h2
    have := d.inv.de a h1
    rw [endOf_stop hg hc] at this
    exact this
  · intro h
    obtain ⟨c, hc, hl⟩ := d.inv.we a h
    exact ⟨d.inv.wd a h, by simp [List.getD, hc, hl]⟩
theorem Done.perm (d : Done rows roots S) {met : List Nat} (hn : met.Nodup) (hm : ∀ a, a ∈ met ↔ Reach rows roots a) : S.D.Perm met :=
  (List.perm_ext_iff_of_nodup d.inv.dn hn).mpr fun a => (d.iff a).trans (hm a).symm
end

-- the law's own search
structure SInv (rows : List Cell) (roots found left : List Nat) : Prop where
  fn : found.Nodup
  fr : ∀ a ∈ found, Reach rows roots a
  lr : ∀ a ∈ left, Reach rows roots a
  ro : ∀ a ∈ roots, a ∈ found ∨ a ∈ left
  cl : ∀ (a b : Nat) (c : Cell), a ∈ found → rows[a]? = some c → b ∈ c.named → b ∈ found ∨ b ∈ left
section
variable {rows : List Cell} {roots found left : List Nat}
theorem SInv.start : SInv rows roots [] roots := ⟨List.nodup_nil, fun _ h => (nomatch h), fun _ h => .root h, fun _ h => .inr h, fun _ _ _ h => (nomatch h)⟩
theorem SInv.skip {a : Nat} (I : SInv rows roots found (left ++ [a])) (h : a ∈ found) : SInv rows roots found left := by
  have key : ∀ b, b ∈ found ∨ b ∈ left ++ [a] → b ∈ found ∨ b ∈ left := by
    rintro b (hb | hb)
    · exact .inl hb
    · rcases List.mem_append.mp hb with hb | hb
      · exact .inr hb
      · rw [List.mem_singleton.mp hb]; exact .inl h
  exact ⟨I.fn, I.fr, fun b hb => I.lr b (List.mem_append_left _ hb), fun b hb => key b (I.ro b hb), fun x b c hx hc hb => key b (I.cl x b c hx hc hb)⟩
theorem SInv.take {a : Nat} {c : Cell} (I : SInv rows roots found (left ++ [a])) (h : a ∉ found) (hc : rows[a]? = some c) : SInv rows roots (found ++ [a]) (left ++ c.named) := by
  have ha : Reach rows roots a := I.lr a (List.mem_append_right _ (.head _))
  have key : ∀ b, b ∈ found ∨ b ∈ left ++ [a] → b ∈ found ++ [a] ∨ b ∈ left ++ c.named := by
    rintro b (hb | hb)
    · exact .inl (List.mem_append_left _ hb)
    · rcases List.mem_append.mp hb with hb | hb
      · exact .inr (List.mem_append_left _ hb)
      · exact .inl (List.mem_append_right _ hb)
  refine ⟨?_, fun b hb => ?_, fun b hb => ?_, fun b hb => key b (I.ro b hb), fun x b c' hx hc' hb => ?_⟩
  · rw [List.nodup_append]
    exact ⟨I.fn, by simp, fun x hx b hb => by rw [List.mem_singleton.mp hb]; intro k; exact h (k ▸ hx)⟩
  · rcases List.mem_append.mp hb with hb | hb
    · exact I.fr b hb
    · rw [List.mem_singleton.mp hb]; exact ha
  · rcases List.mem_append.mp hb with hb | hb
    · exact I.lr b (List.mem_append_left _ hb)
    · exact .step ha hc hb
  · rcases List.mem_append.mp hx with hx | hx
    · exact key b (I.cl x b c' hx hc' hb)
    · rw [List.mem_singleton.mp hx, hc] at hc'
      cases hc'
      exact .inr (List.mem_append_right _ hb)
theorem SInv.fin (I : SInv rows roots found []) (a : Nat) : a ∈ found ↔ Reach rows roots a := by
  refine ⟨I.fr a, fun h => ?_⟩
  induction h with
  | root h => exact (I.ro _ h).elim id fun h => by cases h
  | step _ h hb ih => exact (I.cl _ _ _ ih h hb).elim id fun h => by cases h
theorem SInv.many (wf : WF rows) (hr : ∀ a ∈ roots, a < rows.length) (I : SInv rows roots found left) : found.length ≤ rows.length := nodup_le I.fn fun a ha => (I.fr a ha).lt wf hr
end

end

section
-- part LzGen
section
variable {c : Cx} {m : Loc} {M M' Φ : Led} {s : Shared}
theorem Sat.perm (S : Sat c m M Φ s) (p : M.Perm M') : Sat c m M' Φ s := by
  refine ⟨S.F, fun q hq => S.N q ?_, ⟨(p.map _).nodup_iff.mp S.S.1, fun q hq r hr => S.S.2 q hq r (p.mem_iff.mpr hr)⟩⟩
  rcases List.mem_append.mp hq with hq | hq
  · exact List.mem_append_left _ (p.mem_iff.mpr hq)
  · exact List.mem_append_right _ hq
variable {α : Type} {t : Sem α}
theorem EW.permIn {Q : α → Loc → Led → Led → Prop} (p : M.Perm M') (h : EW c t m M' Φ Q) : EW c t m M Φ Q :=
  EW.mk fun G s S => h.run G s (S.perm p)
theorem EW.permOut {Q : α → Loc → Led → Led → Prop} (h : EW c t m M Φ (fun v m' M' Φ' => ∃ M'', M'.Perm M'' ∧ Q v m' M'' Φ')) : EW c t m M Φ Q :=
  EW.mk fun G s S => wpAny_mono (h.run G s S) (fun _ _ ⟨m', M', Φ', h', tk', e, S', sub', M'', p, q⟩ => ⟨m', M'', Φ', h', tk', e, S'.perm p, sub', q⟩) fun _ _ x => x
/-- an object that may be forgotten at the end -/
theorem EW.forget {P : Led} {Q : α → Loc → Led → Led → Prop} (h : EW c t m M Φ (fun v m' M' Φ' => ∃ M'', M' = M'' ++ P ∧ Q v m' M'' Φ')) : EW c t m M Φ Q :=
  EW.mk fun G s S => wpAny_mono (h.run G s S) (fun _ _ ⟨m', M', Φ', h', tk', e, S', sub', M'', p, q⟩ => by subst p; exact ⟨m', M'', Φ', h', tk', e, S'.app, sub', q⟩) fun _ _ x => x
theorem frozenAll {Q : α → Loc → Led → Led → Prop} : ∀ {P Φ : Led}, EW c t m M (P.reverse ++ Φ) Q → EW c t m (P ++ M) Φ Q
  | [], _, h => h
  | p :: P, Φ, h => EW.frozen (frozenAll (P := P) (Φ := p :: Φ) (by rw [List.reverse_cons, List.append_assoc] at h; exact h))
variable {cn : PySem.Str} {cs : Scope} {a : Addr} {ccd : Value} {cl : List (PySem.Str × Addr)} {x : PySem.Str} {v : Value}
theorem sC {i : Nat} {b : Addr} {o : Obj} {v₀ : Option Value} {Q : Unit → Loc → Led → Led → Prop} (hc : cl.lookup x = some b) (hm : M[i]? = some (b, o)) (hd : o.data = .cell v₀) (h : ∀ o', o'.data = .cell (some v) → Q () m (M.set i (b, o')) Φ)
    (hk : cs.kind = .function := by with_unfolding_all rfl) (hx : (envX cn cs c.L a ccd cl).kindOf x = some .cell := by with_unfolding_all rfl) :
    EW c (storeName (envX cn cs c.L a ccd cl) x v) m M Φ Q := EW.mk fun _ s S =>
  wpAny_storeName_cell hk hx hc ⟨o, S.at (mem_of_get hm), hd⟩ fun h' hv hs => by
    obtain ⟨o', ho', hd'⟩ := hv
    exact Post.here (tk' := s.toks) (S.set hm hs ho') (fun _ h => h) (h o' hd')
end

-- lists of ints
def IntL (vs : List Value) (ns : List Nat) : Prop := IntsAre vs (ns.map fun n => ((n : Nat) : Int))
theorem IntL.length {vs : List Value} {ns : List Nat} (h : IntL vs ns) : vs.length = ns.length := by
  have := IntsAre.length h
  rw [List.length_map] at this
  omega
theorem ints_snoc {vs : List Value} {ns : List Int} (h : IntsAre vs ns) (k : Int) (t : Tok) : IntsAre (vs ++ [.int k t]) (ns ++ [k]) := by
  induction h with
  | nil => exact .cons k t .nil
  | cons n u _ ih => exact .cons n u ih
theorem ints_app {vs us : List Value} {ns ks : List Int} (h : IntsAre vs ns) (g : IntsAre us ks) : IntsAre (vs ++ us) (ns ++ ks) := by
  induction h with
  | nil => exact g
  | cons n u _ ih => exact .cons n u ih
theorem IntL.nil : IntL [] [] := IntsAre.nil
theorem IntL.snoc {vs : List Value} {ns : List Nat} (h : IntL vs ns) (k : Nat) (t : Tok) : IntL (vs ++ [.int k t]) (ns ++ [k]) := by
  unfold IntL
  rw [List.map_append]
  exact ints_snoc h k t
theorem IntL.app {vs us : List Value} {ns ks : List Nat} (h : IntL vs ns) (g : IntL us ks) : IntL (vs ++ us) (ns ++ ks) := by
  unfold IntL
  rw [List.map_append]
  exact ints_app h g
theorem ints_get {vs : List Value} {ns : List Int} (h : IntsAre vs ns) : ∀ {i : Nat} {k : Int}, ns[i]? = some k → ∃ t, vs[i]? = some (.int k t) := by
  induction h with
  | nil => intro i k h; simp at h
  | cons n u _ ih =>
    intro i k h
    cases i with
    | zero => simp at h; subst h; exact ⟨u, rfl⟩
    | succ i => simp only [List.getElem?_cons_succ] at h ⊢; exact ih h
theorem IntL.get {vs : List Value} {ns : List Nat} (h : IntL vs ns) {i k : Nat} (hk : ns[i]? = some k) : ∃ t, vs[i]? = some (.int k t) := ints_get h (by rw [List.getElem?_map, hk]; rfl)
theorem IntL.get' {vs : List Value} {ns : List Nat} (h : IntL vs ns) {i : Nat} {v : Value} (hv : vs[i]? = some v) : ∃ k t, ns[i]? = some k ∧ v = .int k t := by
  have hi := lt_of_get hv
  rw [h.length] at hi
  obtain ⟨t, e⟩ := h.get (List.getElem?_eq_getElem hi)
  rw [hv] at e
  cases e
  exact ⟨_, t, List.getElem?_eq_getElem hi, rfl⟩
theorem ints_dat {vs : List Value} {ns : List Int} (h : IntsAre vs ns) (Φ : Led) : DatAll Φ vs (ns.map Dat.int) := by
  induction h with
  | nil => exact .nil
  | cons n u _ ih => exact .cons (.int n u) ih
theorem IntL.dat {vs : List Value} {ns : List Nat} (h : IntL vs ns) (Φ : Led) : DatAll Φ vs (ns.map fun n => Dat.int (n : Nat)) := by
  have := ints_dat h Φ
  rw [List.map_map] at this
  exact this
theorem int_mem {n : Nat} {ns : List Nat} : Dat.int (n : Nat) ∈ ns.map (fun n => Dat.int (n : Nat)) ↔ n ∈ ns := by
  constructor
  · intro h
    obtain ⟨k, hk, e⟩ := List.mem_map.mp h
    have : ((k : Nat) : Int) = n := by injection e
    have : k = n := by omega
    exact this ▸ hk
  · intro h; exact List.mem_map.mpr ⟨n, h, rfl⟩

-- dicts
theorem valueAt_none {kvs : List (Int × Value)} {k : Int} : valueAt kvs k = none ↔ k ∉ kvs.map (·.1) := by
  unfold valueAt
  rw [Option.map_eq_none_iff, List.find?_eq_none]
  constructor
  · intro h hm
    obtain ⟨p, hp, e⟩ := List.mem_map.mp hm
    exact h p hp (by simpa using e)
  · intro h p hp e
    exact h (List.mem_map.mpr ⟨p, hp, by simpa using e⟩)
theorem isSome_iff {kvs : List (Int × Value)} {k : Int} : (valueAt kvs k).isSome = true ↔ k ∈ kvs.map (·.1) := by
  have := valueAt_none (kvs := kvs) (k := k)
  cases h : valueAt kvs k with
  | none => simp [this.mp h]
  | some v =>
    rw [h] at this
    simp only [reduceCtorEq, false_iff, Classical.not_not] at this
    simp [this]
theorem keys_stored {kvs : List (Int × Value)} {k : Int} {v : Value} : (stored kvs k v).map (·.1) = if k ∈ kvs.map (·.1) then kvs.map (·.1) else kvs.map (·.1) ++ [k] := by
  unfold stored
  have e : (kvs.any fun kv => decide (kv.1 = k)) = true ↔ k ∈ kvs.map (·.1) := by
    rw [List.any_eq_true]
    constructor
    · rintro ⟨p, hp, e⟩; exact List.mem_map.mpr ⟨p, hp, by simpa using e⟩
    · intro h
      obtain ⟨p, hp, e⟩ := List.mem_map.mp h
      exact ⟨p, hp, by simpa using e⟩
  by_cases h : k ∈ kvs.map (·.1)
  · rw [if_pos (e.mpr h), if_pos h, List.map_map]
    refine List.map_congr_left fun p _ => ?_
    simp only [Function.comp]
    split <;> rfl
  · rw [if_neg (fun x => h (e.mp x)), if_neg h, List.map_append]; rfl
theorem valueAt_stored_self {kvs : List (Int × Value)} {k : Int} {v : Value} : valueAt (stored kvs k v) k = some v := by
  unfold stored
  split
  · rename_i h
    induction kvs with
    | nil => simp at h
    | cons p kvs ih =>
      unfold valueAt
      rw [List.map_cons, List.find?_cons]
      by_cases e : p.1 = k
      · simp [e]
      · rw [if_neg e]
        simp only [decide_eq_false e]
        refine ih ?_
        rw [List.any_cons] at h
        simpa [e] using h
  · rename_i h
    have hn : k ∉ kvs.map (·.1) := fun hm => h (by
      obtain ⟨p, hp, e⟩ := List.mem_map.mp hm
      exact List.any_eq_true.mpr ⟨p, hp, by simpa using e⟩)
    have := valueAt_none.mpr hn
    unfold valueAt at this ⊢
    rw [Option.map_eq_none_iff] at this
    rw [List.find?_append, this]
    simp
theorem valueAt_stored_ne {kvs : List (Int × Value)} {k j : Int} {v : Value} (n : j ≠ k) : valueAt (stored kvs k v) j = valueAt kvs j := by
  unfold stored
  split
  · rename_i h
    clear h
    induction kvs with
    | nil => rfl
    | cons p kvs ih =>
      unfold valueAt at ih ⊢
      rw [List.map_cons, List.find?_cons, List.find?_cons]
      by_cases e : p.1 = k
      · have e' : ¬ p.1 = j := fun x => n (x.symm.trans e)
        rw [if_pos e]
        simp only [decide_eq_false e']
        exact ih
      · rw [if_neg e]
        by_cases e' : p.1 = j
        · simp only [decide_eq_true e']
        · simp only [decide_eq_false e']; exact ih
  · unfold valueAt
    rw [List.find?_append]
    have : ([(k, v)].find? fun kv => decide (kv.1 = j)) = none := by simp [Ne.symm n]
    rw [this, Option.or_none]
theorem stored_len {kvs : List (Int × Value)} {k : Int} {v : Value} : (stored kvs k v).length ≤ kvs.length + 1 := by
  unfold stored
  split <;> simp

-- frozen dicts of the old heap
structure OldIs (w : World) (Φ : Led) (H : Addr) (rows : List Cell) : Prop where
  ex : ∃ dx es n cd o kvs k t, (H, instObj 232 dx) ∈ Φ ∧ (dx, dictOf es n) ∈ Φ ∧ Flds es [("cells", .ref cd), ("next", .int k t)] ∧ (cd, o) ∈ Φ ∧ DO w cd o kvs ∧
    ∀ (i : Nat) (c : Cell), rows[i]? = some c → ∃ v, valueAt kvs (i : Nat) = some v ∧ CellV Φ v c
theorem OldIs.sub {w : World} {Φ Φ' : Led} {H : Addr} {rows : List Cell} (h : OldIs w Φ H rows) (sub : ∀ p ∈ Φ, p ∈ Φ') : OldIs w Φ' H rows := by
  obtain ⟨dx, es, n, cd, o, kvs, k, t, h1, h2, F, h3, D, h4⟩ := h.ex
  exact ⟨dx, es, n, cd, o, kvs, k, t, sub _ h1, sub _ h2, F, sub _ h3, D, fun i c e => let ⟨v, a, b⟩ := h4 i c e; ⟨v, a, b.sub sub⟩⟩
section
variable {c : Cx} {m : Loc} {M Φ : Led} {Q : Value → Loc → Led → Led → Prop}
theorem old_get {H : Addr} {rows : List Cell} {a : Nat} {u : Tok} {cell : Cell} (hn : 1 ≤ c.n) (O : OldIs c.w Φ H rows) (h : rows[a]? = some cell) (k : ∀ v, CellV Φ v cell → Q v m M Φ) : EW c (call (.ref 215) [.ref H, .int a u]) m M Φ Q := by
  obtain ⟨dx, es, n, cd, o, kvs, k', t, h1, h2, F, h3, D, h4⟩ := O.ex
  obtain ⟨v, hv, hc⟩ := h4 a cell h
  exact heap_get hn h1 (mem_led h2) F (mem_led h3) D hv (k v hc)
end

end

section
-- part values
section
variable {c : Cx} {m : Loc} {M Φ : Led} {Q : Value → Loc → Led → Led → Prop}
theorem ok_c : PyData.strOk "c" = true := by decide +kernel
theorem law_values {i : Nat} {src : Addr} {o : Obj} {many : Nat} {t : Tok} (hn : 2 ≤ c.n) (h1 : M[i]? = some (src, o)) (ho : SrcOk o) (hm : 1 ≤ many) (hm2 : many ≤ 1000)
    (h : ∀ D o' (vs : List V) Φ', (∀ p ∈ Φ, p ∈ Φ') → SrcOk o' → vs.length ≤ 3 → (∀ v ∈ vs, V.wf many v) → DatIn Φ' (.ref D) (vsD vs) → Q (.ref D) m (M.set i (src, o')) Φ') :
    EW c (call (.ref 337) [.ref src, .int many t]) m M Φ Q := by
  refine call_def (f := 337) (binds := [("source", .ref src), ("many", .int many t)]) (by k_is) (by k_is) (by omega) (by rfl) (locs rfl) rfl rfl rfl (by decide) fun c' hw hn' keep => ?_
  have hil := ltG h1
  walk_at "w"
  refine newLM (szl (by simp)) fun D hD => ?_
  walk_at "w"
  refine EW.mono (Q := fun f m' M' Φ' => f = .next ∧ (∀ p ∈ Φ, p ∈ Φ') ∧ ∃ (o' : Obj) (us : List Value) (n : Nat) (vs : List V), M' = (D, lo us n) :: M.set i (src, o') ∧ SrcOk o' ∧ DatAll Φ' us (vs.map V.dat) ∧ vs.length ≤ 3 ∧ (∀ v ∈ vs, V.wf many v) ∧ Locs m' [("source", .ref src), ("many", .int many t), ("found", .ref D)]) ?_ ?_
  · refine For_range ?_
    walk_at "w"
    refine take_spec (i := i + 1) (by omega) (by simpa using h1) ho (by decide) (by decide) fun d u o₁ hd0 hd1 ho₁ => ?_
    rw [List.set_cons_succ]
    walk_at "w"
    refine newR fun r oR t1 u1 v1 hr => ?_
    obtain ⟨q1, q2⟩ := small1 (b := d) (by omega) (by omega)
    refine ⟨r, oR, d, t1, u1, v1, d.toNat, fun k m' M' Φ' => (∀ p ∈ Φ, p ∈ Φ') ∧ ∃ (o' : Obj) (us : List Value) (n : Nat) (vs : List V), M' = (D, lo us n) :: M.set i (src, o') ∧ SrcOk o' ∧ DatAll Φ' us (vs.map V.dat) ∧ vs.length ≤ k ∧ (∀ v ∈ vs, V.wf many v) ∧ Locs m' [("source", .ref src), ("many", .int many t), ("found", .ref D)], rfl, .head _, hr, q1, q2, ⟨?_, ?_, ?_⟩⟩
    · exact ⟨fun p hp => .tail _ hp, o₁, [], 0, [], rfl, ho₁, .nil, by decide, by simp, by walk_at "lk", by walk_at "lk", by walk_at "lk", trivial⟩
    · rintro k v m' M' Φ₁ R hk ⟨tv, rfl⟩ sub ⟨sub', o', us, n, vs, rfl, ho', hus, hlen, hwf, hL⟩
      have hlu := hus.length
      rw [List.length_map] at hlu
      walk_at "w"
      refine take_spec (i := i + 1) (o := o') (by omega) (by simpa using getR (R := R) (getSet h1)) ho' (by decide) (by decide) fun way tw o₂ hw0 hw1 ho₂ => ?_
      rw [List.cons_append, List.set_cons_succ, setR (getSet h1), setSet]
      walk_at "w"
      refine appM (mem_of_get (i := 0) rfl) ?_
      walk_at "w"
      split
      · rename_i hb
        have hb := of_decide_eq_true hb
        walk_at "w"
        refine take_spec (i := i + 1) (o := o₂) (by omega) (by simpa using getR (R := R) (getSet h1)) ho₂ (by omega) (by omega) fun x tx o₃ hx0 hx1 ho₃ => ?_
        rw [List.set_cons_succ, setR (getSet h1), setSet]
        walk_at "w"
        refine newT (szl (by simp)) fun T hT => ?_
        walk_at "w"
        refine appL (i := 0) rfl (by omega) ?_
        walk_at "w"
        obtain ⟨x, rfl⟩ : ∃ y : Nat, x = y := ⟨x.toNat, by omega⟩
        refine ⟨_, rfl, fun p hp => .tail _ (sub' p hp), o₃, us ++ [.ref T], n + 1, vs ++ [.at x], rfl, ho₃, ?_, by simp; omega, ?_, ?_⟩
        · rw [List.map_append]
          exact (hus.mono fun p hp => .tail _ hp).append (.one <| .tuple (.head _) (.cons (.str _ _) (.cons (.int _ _) .nil)))
        · intro v hv
          rcases List.mem_append.mp hv with hv | hv
          · exact hwf v hv
          · rw [List.mem_singleton.mp hv]; show x < many; omega
        · exact ⟨by walk_at "lk", by walk_at "lk", by walk_at "lk", trivial⟩
      · rename_i hb
        walk_at "w"
        refine newT (szl (by simp)) fun T hT => ?_
        walk_at "w"
        refine newT (szl (by simp)) fun T' hT' => ?_
        walk_at "w"
        refine newL (szl (by simp)) fun T'' hT'' => ?_
        walk_at "w"
        have hb : ¬ (1 < way) := by simpa using hb
        rcases (show way = 0 ∨ way = 1 by omega) with rfl | rfl
        · refine yL (mem_led (.head _)) LO.lo (by decide) (by decide) rfl ?_
          walk_at "w"
          refine appL (i := 0) rfl (by omega) ?_
          walk_at "w"
          refine ⟨_, rfl, fun p hp => .tail _ (.tail _ (.tail _ (sub' p hp))), o₂, us ++ [.ref T], n + 1, vs ++ [.int (k - 1)], rfl, ho₂, ?_, by simp; omega, ?_, ?_⟩
          · rw [List.map_append]
            exact (hus.mono fun p hp => .tail _ (.tail _ (.tail _ hp))).append (.one <| .tuple (.tail _ (.tail _ (.head _))) (.cons (.str _ _) (.cons (.int _ _) .nil)))
          · intro v hv
            rcases List.mem_append.mp hv with hv | hv
            · exact hwf v hv
            · rw [List.mem_singleton.mp hv]; trivial
          · exact ⟨by walk_at "lk", by walk_at "lk", by walk_at "lk", trivial⟩
        · refine yL (mem_led (.head _)) LO.lo (by decide) (by decide) rfl ?_
          walk_at "w"
          refine appL (i := 0) rfl (by omega) ?_
          walk_at "w"
          refine ⟨_, rfl, fun p hp => .tail _ (.tail _ (.tail _ (sub' p hp))), o₂, us ++ [.ref T'], n + 1, vs ++ [.ch "c"], rfl, ho₂, ?_, by simp; omega, ?_, ?_⟩
          · rw [List.map_append]
            exact (hus.mono fun p hp => .tail _ (.tail _ (.tail _ hp))).append (.one <| .tuple (.tail _ (.head _)) (.cons (.str _ _) (.cons (.str _ _) .nil)))
          · intro v hv
            rcases List.mem_append.mp hv with hv | hv
            · exact hwf v hv
            · rw [List.mem_singleton.mp hv]; exact ok_c
          · exact ⟨by walk_at "lk", by walk_at "lk", by walk_at "lk", trivial⟩
    · rintro m' M' Φ₁ sub ⟨sub', o', us, n, vs, rfl, ho', hus, hlen, hwf, hL⟩
      exact ⟨rfl, sub', o', us, n, vs, rfl, ho', hus, by omega, hwf, hL⟩
  rintro f m₃ M₃ Φ₃ _ ⟨rfl, sub, o', us, n, vs, rfl, ho', hus, hlen, hwf, hL⟩
  refine EW.frozen ?_
  walk_at "w"
  exact h D o' vs _ (fun p hp => .tail _ (sub p hp)) ho' hlen hwf (.list (.head _) (hus.mono fun p hp => .tail _ hp))
end

end

section
-- part LzPrim6
section
variable {c : Cx} {m : Loc} {M Φ : Led} {env : Env} {Q : Value → Loc → Led → Led → Prop}
theorem SliceTo_ {value : Expr} {k : Int} {kk : Nat} {p1 p2 pos : Pos} (hk : 0 ≤ k)
    (h : EW c (eval value env) m M Φ (fun o m M Φ => ∃ l vs, o = .ref l ∧ SrcAt c Φ l vs ∧ vs.length ≤ 2 ^ 20 ∧ ∀ D, (∀ p ∈ M ++ Φ, p.1 < D) → Q (.ref D) m M ((D, lo (vs.take k.toNat) 0) :: Φ)))
    (hs : ∀ l i : Addr, subscripted (.Slice none (some (.Constant (.int k) kk p1)) none p2) false (.ref l) (.ref i) = operate [.ref i, .ref l] (getItem (.ref l) (.ref i)) := by intro _ _; with_unfolding_all rfl)
    (ht : ∀ o r, letTemporaryGo value o r = Pure.pure () := by intro _ _; with_unfolding_all rfl) :
    EW c (eval (.Subscript value (.Slice none (some (.Constant (.int k) kk p1)) none p2) pos) env) m M Φ Q := by
  refine EW.mk fun G s S => ?_
  refine PyProof.Rows.Subscript_ (wpAny_mono (h.run G s S) (fun o s₁ y => ?_) fun _ _ x => x)
  obtain ⟨m₁, M₁, Φ₁, h₁, tk₁, rfl, S₁, sub₁, l, vs, rfl, hl, hz, q⟩ := y
  refine wpAny_Slice (wpAny_evalPart_none (wpAny_evalPart_some (wpAny_Constant_int (wpAny_evalPart_none ?_))))
  have S₂ : Sat c m₁ M₁ Φ₁ { s with heap := h₁, toks := tk₁ + 1 } := ⟨S₁.F, S₁.N, S₁.S⟩
  have hlt : ∀ p ∈ M₁ ++ Φ₁, p.1 < h₁.objs.size + 1 := fun p hp => Nat.lt_succ_of_lt (S₂.lt hp)
  refine slice_list (s := { s with heap := h₁, toks := tk₁ + 1 }) S₂.F S₂.N (hl.isList S₂) .none (.int k _) (fun h' F' N' => ?_) (hs _ _) (fun r => ht _ r) (by simp only [List.size_toArray, sizeLine_eq]; omega)
  have e : slicePick vs.toArray none (some k) none = (vs.take k.toNat).toArray := by
    have ek : k = (k.toNat : Int) := by omega
    have e2 := slicePick_upto' vs.toArray k.toNat
    rw [← ek] at e2
    rw [e2]
  rw [e] at N'
  refine Post.trans (h₁ := h₁) (t₁ := tk₁) sub₁ (Post.here (m' := m₁) (M' := M₁) (Φ' := (h₁.objs.size + 1, lo (vs.take k.toNat) 0) :: Φ₁) (tk' := tk₁ + 1) ⟨F', fun p hp => N' p ?_, ⟨S₁.S.1, fun p hp r hr => ?_⟩⟩ (fun p hp => .tail _ hp) (q _ hlt))
  · rcases List.mem_append.mp hp with hp | hp
    · exact .tail _ (List.mem_append_left _ hp)
    · rcases List.mem_cons.mp hp with rfl | hp
      · exact .head _
      · exact .tail _ (List.mem_append_right _ hp)
  · rcases List.mem_cons.mp hp with rfl | hp
    · exact Nat.ne_of_gt (hlt r (List.mem_append_left _ hr))
    · exact S₁.S.2 p hp r hr
theorem inTS {t : Addr} {o : Obj} {vs : List Value} {ys : List PySem.Str} {x : PySem.Str} {u : Tok} (hm : (t, o) ∈ M ++ Φ) (ho : TO o vs) (hi : StrsAre vs ys) (h : Q (.bool (ys.any (· == x))) m M Φ) :
    EW c (compareOp .In (.str x u) (.ref t)) m M Φ Q := EW.mk fun _ _ S => in_tuple_strs (ho.at S hm) (by simpa using hi) (Post.same S h)
theorem yT {value slice : Expr} {l : Addr} {o : Obj} {vs : List Value} {k : Int} {u : Tok} {v : Value} (h1 : (l, o) ∈ M ++ Φ) (ho : TO o vs) (h0 : 0 ≤ k) (hhi : k < 1000000) (hx : vs[k.toNat]? = some v) (h : Q v m M Φ)
    (hs : subscripted slice false (.ref l) (.int k u) = operate [.ref l, .int k u] (getItem (.ref l) (.int k u)) := by with_reducible first | exact sub_const | exact sub_name | exact sub_sub | exact sub_attr | exact sub_call) : EW c (subscriptTail value slice (.ref l) (.int k u)) m M Φ Q := EW.mk fun _ _ S => by
  have hlt : k.toNat < vs.length := by
    rcases Nat.lt_or_ge k.toNat vs.length with h | h
    · exact h
    · rw [List.getElem?_eq_none h] at hx; cases hx
  refine tail_any (ho.at S h1).typeIs slot_tuple_getitem.lookup (getItem_tuple (ho.at S h1) (by omega) (by omega) (j := k.toNat) ?_ (by simpa using hx) (Post.same S h)) hs
  unfold seqIndex?
  have e : (k.toNat : Int) = k := Int.toNat_of_nonneg h0
  have h2 : k < (vs.length : Int) := by omega
  simp only [List.size_toArray, if_neg (Int.not_lt.mpr h0), decide_eq_true h0, decide_eq_true h2, Bool.and_self, if_true]
end

/-- rows and their data -/
inductive RowsD (P : Cell → Dat → Prop) : List Cell → List Dat → Prop
  | nil : RowsD P [] []
  | cons {c : Cell} {d : Dat} {cs : List Cell} {ds : List Dat} : P c d → RowsD P cs ds → RowsD P (c :: cs) (d :: ds)
theorem RowsD.length {P : Cell → Dat → Prop} {cs : List Cell} {ds : List Dat} (h : RowsD P cs ds) : cs.length = ds.length := by
  induction h with
  | nil => rfl
  | cons _ _ ih => rw [List.length_cons, List.length_cons, ih]
theorem RowsD.snoc {P : Cell → Dat → Prop} {cs : List Cell} {ds : List Dat} {c : Cell} {d : Dat} (h : RowsD P cs ds) (k : P c d) : RowsD P (cs ++ [c]) (ds ++ [d]) := by
  induction h with
  | nil => exact .cons k .nil
  | cons h _ ih => exact .cons h ih
theorem RowsD.get {P : Cell → Dat → Prop} {cs : List Cell} {ds : List Dat} (h : RowsD P cs ds) : ∀ {i : Nat} {c : Cell}, cs[i]? = some c → ∃ d, ds[i]? = some d ∧ P c d := by
  induction h with
  | nil => intro i c e; simp at e
  | @cons c' d cs ds h _ ih =>
    intro i c e
    cases i with
    | zero => simp only [List.getElem?_cons_zero, Option.some.injEq] at e; subst e; exact ⟨d, rfl, h⟩
    | succ i => simp only [List.getElem?_cons_succ] at e ⊢; exact ih e
theorem datGet {Φ : Led} {vs : List Value} {ds : List Dat} (h : DatAll Φ vs ds) {i : Nat} {d : Dat} (hd : ds[i]? = some d) : ∃ v, vs[i]? = some v ∧ DatIn Φ v d := by
  have hi := lt_of_get hd
  obtain ⟨v, hv, hx⟩ := h.get hi
  rw [List.getElem?_eq_getElem hi] at hd
  cases hd
  exact ⟨v, hv, hx⟩
def RowsAt (Φ : Led) (l : Addr) (rows : List Cell) : Prop := ∃ us n ds, (l, lo us n) ∈ Φ ∧ DatAll Φ us ds ∧ RowsD RowD rows ds
theorem RowsAt.sub {Φ Φ' : Led} {l : Addr} {rows : List Cell} (h : RowsAt Φ l rows) (sub : ∀ p ∈ Φ, p ∈ Φ') : RowsAt Φ' l rows := by
  obtain ⟨us, n, ds, h1, h2, h3⟩ := h
  exact ⟨us, n, ds, sub _ h1, h2.mono sub, h3⟩
theorem RowsAt.get {Φ : Led} {l : Addr} {rows : List Cell} (h : RowsAt Φ l rows) : ∃ us n, (l, lo us n) ∈ Φ ∧ us.length = rows.length ∧ ∀ (i : Nat) (c : Cell), rows[i]? = some c → ∃ v d, us[i]? = some v ∧ DatIn Φ v d ∧ RowD c d := by
  obtain ⟨us, n, ds, h1, h2, h3⟩ := h
  refine ⟨us, n, h1, by rw [h2.length, h3.length], fun i c e => ?_⟩
  obtain ⟨d, hd, hr⟩ := h3.get e
  obtain ⟨v, hv, hx⟩ := datGet h2 hd
  exact ⟨v, d, hv, hx, hr⟩

end

section
-- part rows
def Pre (c : Cell) (d : Dat) : Prop := RowD c d ∨ (c = .ho ∧ ∃ nm, d = .tuple [.str "plain", .str nm, .list []])
inductive KindOk (k : Nat) : PySem.Str → Prop
  | fn : KindOk k "function"
  | th : KindOk k "thunk"
  | pa : KindOk k "partial"
  | da : KindOk k "data"
  | ho : KindOk k "hole"
  | pl : KindOk k "plain"
  | li : 0 < k → KindOk k "link"
def nmOf (k : Nat) : PySem.Str := ("k" : PySem.Str) ++ PySem.Str.ofString (toString ((k : Int).fmod 3))
theorem fmod3 (k : Nat) : (k : Int).fmod 3 = 0 ∨ (k : Int).fmod 3 = 1 ∨ (k : Int).fmod 3 = 2 := by
  have h0 : 0 ≤ (k : Int).fmod 3 := Int.fmod_nonneg_of_pos _ (by decide)
  have h1 : (k : Int).fmod 3 < 3 := Int.fmod_lt_of_pos _ (by decide)
  omega
theorem nm_ok (k : Nat) : PyData.strOk (nmOf k) = true := by
  unfold nmOf
  rcases fmod3 k with e | e | e <;> rw [e] <;> decide +kernel
theorem nm_len (k : Nat) : (PySem.Str.ofString "k").length + (PySem.Str.ofString (toString ((k : Int).fmod 3))).length ≤ sizeLine := by
  rw [sizeLine_eq]
  rcases fmod3 k with e | e | e <;> rw [e] <;> decide +kernel
theorem nm_log (k : Nat) : ((k : Int).fmod 3).natAbs.log2 < 1920 := by
  rcases fmod3 k with e | e | e <;> rw [e] <;> decide
theorem V.dat_ok {n : Nat} {v : V} (h : v.wf n) (j : Nat) : kqdOk (j + 1) v.dat = true := by
  cases v with
  | int i => cases j <;> (show (PyData.strOk "int" && true) = true; decide +kernel)
  | ch x =>
    have h : PyData.strOk x = true := h
    show (kqdOk j (.str "char") && (kqdOk j (.str x) && true)) = true
    cases j <;> (show (PyData.strOk "char" && (PyData.strOk x && true)) = true; rw [h]; decide +kernel)
  | «at» a => cases j <;> (show (PyData.strOk "at" && true) = true; decide +kernel)
theorem vsD_ok {n : Nat} {vs : List V} (h : ∀ v ∈ vs, V.wf n v) (j : Nat) : kqdOk (j + 2) (vsD vs) = true := by
  show (vs.map V.dat).all (kqdOk (j + 1)) = true
  rw [List.all_eq_true]
  intro d hd
  obtain ⟨v, hv, rfl⟩ := List.mem_map.mp hd
  exact V.dat_ok (h v hv) j
theorem wf_snoc {P : Nat → Cell → Prop} {cs : List Cell} {x : Cell} (h : ∀ (j : Nat) (y : Cell), cs[j]? = some y → P j y) (hx : P cs.length x) : ∀ (j : Nat) (y : Cell), (cs ++ [x])[j]? = some y → P j y := by
  intro j y e
  rcases Nat.lt_or_ge j cs.length with hj | hj
  · rw [List.getElem?_append_left hj] at e; exact h j y e
  · rw [List.getElem?_append_right hj] at e
    have : j = cs.length := by
      rcases Nat.lt_or_ge (j - cs.length) 1 with h' | h'
      · omega
      · rw [List.getElem?_eq_none (by simpa using h')] at e; cases e
    subst this
    simp at e
    subst e
    exact hx
local macro_rules | `(tactic| walk_at "st") => `(tactic| with_reducible ((show EW _ (eval (Expr.Subscript _ (Expr.Slice _ _ _ _) _) _) _ _ _ _); refine SliceTo_ (by decide) ?_))
local macro_rules | `(tactic| walk_at "nm") => `(tactic| ((with_reducible show EW _ (eval (Expr.Name _ _) (compEnvC _ _ _ _)) _ _ _ _); (with_reducible refine nCL (List.mem_append_left _ (List.Mem.tail _ (List.Mem.head _))) (by assumption) (by assumption) ?_)))
section
variable {c : Cx} {m : Loc} {M Φ : Led} {Q : Value → Loc → Led → Led → Prop}
theorem law_rows {i : Nat} {src : Addr} {o : Obj} (hn : 4 ≤ c.n) (h1 : M[i]? = some (src, o)) (ho : SrcOk o)
    (h : ∀ D o' rows Φ', (∀ p ∈ Φ, p ∈ Φ') → SrcOk o' → WF rows → 1 ≤ rows.length → RowsAt Φ' D rows → Q (.ref D) m (M.set i (src, o')) Φ') :
    EW c (call (.ref 342) [.ref src]) m M Φ Q := by
  refine call_def (f := 342) (binds := [("source", .ref src)]) (by k_is) (by k_is) (by omega) (by rfl) (locs rfl) rfl rfl rfl (by decide) fun c' hw hn' keep => ?_
  walk_at "w"
  refine take_spec (by omega) h1 ho (by decide) (by decide) fun d u o₁ hd0 hd1 ho₁ => ?_
  walk_at "w"
  obtain ⟨many, hmany⟩ : ∃ y : Nat, 1 + d = y := ⟨(1 + d).toNat, by omega⟩
  rw [hmany]
  refine newLM (szl (by simp)) fun D hD => ?_
  walk_at "w"
  refine EW.mono (Q := fun f m' M' Φ' => f = .next ∧ (∀ p ∈ Φ, p ∈ Φ') ∧ ∃ (o' : Obj) (us : List Value) (n : Nat) (cs : List Cell) (ds : List Dat), M' = (D, lo us n) :: M.set i (src, o') ∧ SrcOk o' ∧ DatAll Φ' us ds ∧ RowsD Pre cs ds ∧ cs.length = many ∧ (∀ (j : Nat) (x : Cell), cs[j]? = some x → x.wf many j ∧ x.vals.length ≤ 3) ∧ Locs m' [("rows", .ref D)]) ?_ ?_
  · refine For_range ?_
    walk_at "w"
    refine newR fun r oR t1 u1 v1 hr => ?_
    obtain ⟨q1, q2⟩ := small1 (b := many) (by omega) (by omega)
    rw [Int.toNat_natCast] at q2
    refine ⟨r, oR, many, t1, u1, v1, many, fun k m' M' Φ' => (∀ p ∈ Φ, p ∈ Φ') ∧ ∃ (o' : Obj) (us : List Value) (n : Nat) (cs : List Cell) (ds : List Dat) (tm : Tok), M' = (D, lo us n) :: M.set i (src, o') ∧ SrcOk o' ∧ DatAll Φ' us ds ∧ RowsD Pre cs ds ∧ cs.length = k ∧ (∀ (j : Nat) (x : Cell), cs[j]? = some x → x.wf many j ∧ x.vals.length ≤ 3) ∧ Locs m' [("source", .ref src), ("many", .int many tm), ("rows", .ref D)], rfl, .head _, hr, q1, q2, ⟨?_, ?_, ?_⟩⟩
    · exact ⟨fun p hp => .tail _ hp, o₁, [], 0, [], [], _, rfl, ho₁, .nil, .nil, rfl, by simp, by walk_at "lk", by walk_at "lk", by walk_at "lk", trivial⟩
    · rintro k v m' M' Φ₁ R hk ⟨tv, rfl⟩ sub ⟨sub', o', us, n, cs, ds, tm, rfl, ho', hus, hds, hlen, hwf, hL⟩
      have hlu := hus.length
      have hld := hds.length
      -- the kind
      refine execs_cons (EW.mono (Q := fun f m'' M'' Φ'' => f = .next ∧ (∀ p ∈ Φ₁, p ∈ Φ'') ∧ ∃ (o₂ : Obj) (K : PySem.Str) (tK : Tok), M'' = (D, lo us n) :: (M.set i (src, o₂) ++ R) ∧ SrcOk o₂ ∧ KindOk 1 K ∧ Locs m'' [("source", .ref src), ("many", .int many tm), ("rows", .ref D), ("at", .int k tv), ("kind", .str K tK)]) ?_ ?_)
      · walk_at "w"
        refine newL (szl (by simp)) fun T hT => ?_
        walk_at "w"
        refine take_spec (i := i + 1) (o := o') (by omega) (by simpa using getR (R := R) (getSet h1)) ho' (by decide) (by decide) fun way tw o₂ hw0 hw1 ho₂ => ?_
        rw [List.cons_append, List.set_cons_succ, setR (getSet h1), setSet]
        rcases (show way = 0 ∨ way = 1 ∨ way = 2 ∨ way = 3 ∨ way = 4 ∨ way = 5 ∨ way = 6 ∨ way = 7 ∨ way = 8 by omega) with rfl | rfl | rfl | rfl | rfl | rfl | rfl | rfl | rfl
        all_goals (
          refine yL (mem_led (.head _)) LO.lo (by decide) (by decide) rfl ?_
          walk_at "w"
          refine' ⟨rfl, fun p hp => .tail _ hp, o₂, _, _, rfl, ho₂, _, by walk_at "lk", by walk_at "lk", by walk_at "lk", by walk_at "lk", by walk_at "lk", trivial⟩
          first | exact .fn | exact .th | exact .pa | exact .da | exact .ho | exact .pl | exact .li (by decide))
      rintro f m₂ M₂ Φ₂ _ ⟨rfl, sub₂, o₂, K, tK, rfl, ho₂, hK, hL₂⟩
      clear hL
      refine execs_cons (EW.mono (Q := fun f m'' M'' Φ'' => f = .next ∧ Φ'' = Φ₂ ∧ ∃ (K : PySem.Str) (tK : Tok), M'' = (D, lo us n) :: (M.set i (src, o₂) ++ R) ∧ KindOk k K ∧ Locs m'' [("source", .ref src), ("many", .int many tm), ("rows", .ref D), ("at", .int k tv), ("kind", .str K tK)]) ?_ ?_)
      · cases hK with
        | li _ =>
          walk_at "w"
          split
          · rename_i hb
            walk_at "w"
            exact ⟨rfl, rfl, "hole", _, rfl, .ho, by walk_at "lk", by walk_at "lk", by walk_at "lk", by walk_at "lk", by walk_at "lk", trivial⟩
          · rename_i hb
            walk_at "w"
            have hb : ¬ ((k : Int) == 0) = true := hb
            rw [beq_iff_eq] at hb
            exact ⟨rfl, rfl, _, _, rfl, .li (by omega), hL₂⟩
        | _ =>
          walk_at "w"
          exact ⟨rfl, rfl, _, _, rfl, (by first | exact .fn | exact .th | exact .pa | exact .da | exact .ho | exact .pl), hL₂⟩
      rintro f m₃ M₃ Φ₃ _ ⟨rfl, rfl, K', tK', rfl, hK', hL₃⟩
      clear hL₂
      cases hK' with
      | fn =>
        walk_at "w"
        refine iMod (by decide) fun _ => ?_
        walk_at "w"
        refine strInt (nm_log k) fun _ => ?_
        walk_at "w"
        refine sAdd (fun _ => ?_) (nm_len k)
        walk_at "w"
        refine newT (szl (by simp)) fun T hT => ?_
        walk_at "w"
        refine inTS (mem_led (.head _)) TO.tp (.cons _ _ (.cons _ _ .nil)) ?_
        walk_at "w"
        refine law_values (i := i + 1) (o := o₂) (many := many) (by omega) (by simpa using getR (R := R) (getSet h1)) ho₂ (by omega) (by omega) fun Va o₃ vs Φ₄ sub₄ ho₃ hvl hvw hv => ?_
        have sub₄ : ∀ p ∈ Φ₃, p ∈ Φ₄ := fun p hp => sub₄ p (.tail _ hp)
        rw [List.set_cons_succ, setR (getSet h1), setSet]
        walk_at "w"
        refine appM (mem_of_get (i := 0) rfl) ?_
        walk_at "w"
        refine newT (szl (by simp)) fun T' hT' => ?_
        walk_at "w"
        refine appL (i := 0) rfl (by omega) ?_
        walk_at "w"
        refine ⟨_, rfl, fun p hp => .tail _ (sub₄ p (sub₂ p (sub' p hp))), o₃, us ++ [.ref T'], n + 1, cs ++ [.fn (nmOf k) vs], ds ++ [.tuple [.str "function", .str (nmOf k), vsD vs]], tm, rfl, ho₃, (hus.mono fun p hp => .tail _ (sub₄ p (sub₂ p hp))).append (.one (.tuple (.head _) (.cons (.str _ _) (.cons (.str _ _) (.cons (hv.mono fun p hp => .tail _ hp) .nil))))), hds.snoc (.inl .fn), by simp; omega, wf_snoc (P := fun j y => y.wf many j ∧ y.vals.length ≤ 3) (x := .fn (nmOf k) vs) hwf ⟨⟨nm_ok k, hvw⟩, hvl⟩, by walk_at "lk", by walk_at "lk", by walk_at "lk", trivial⟩
      | th =>
        walk_at "w"
        refine iMod (by decide) fun _ => ?_
        walk_at "w"
        refine strInt (nm_log k) fun _ => ?_
        walk_at "w"
        refine sAdd (fun _ => ?_) (nm_len k)
        walk_at "w"
        refine newT (szl (by simp)) fun T hT => ?_
        walk_at "w"
        refine inTS (mem_led (.head _)) TO.tp (.cons _ _ (.cons _ _ .nil)) ?_
        walk_at "w"
        refine law_values (i := i + 1) (o := o₂) (many := many) (by omega) (by simpa using getR (R := R) (getSet h1)) ho₂ (by omega) (by omega) fun Va o₃ vs Φ₄ sub₄ ho₃ hvl hvw hv => ?_
        have sub₄ : ∀ p ∈ Φ₃, p ∈ Φ₄ := fun p hp => sub₄ p (.tail _ hp)
        rw [List.set_cons_succ, setR (getSet h1), setSet]
        walk_at "w"
        refine appM (mem_of_get (i := 0) rfl) ?_
        walk_at "w"
        refine newT (szl (by simp)) fun T' hT' => ?_
        walk_at "w"
        refine appL (i := 0) rfl (by omega) ?_
        walk_at "w"
        refine ⟨_, rfl, fun p hp => .tail _ (sub₄ p (sub₂ p (sub' p hp))), o₃, us ++ [.ref T'], n + 1, cs ++ [.th (nmOf k) vs], ds ++ [.tuple [.str "thunk", .str (nmOf k), vsD vs]], tm, rfl, ho₃, (hus.mono fun p hp => .tail _ (sub₄ p (sub₂ p hp))).append (.one (.tuple (.head _) (.cons (.str _ _) (.cons (.str _ _) (.cons (hv.mono fun p hp => .tail _ hp) .nil))))), hds.snoc (.inl .th), by simp; omega, wf_snoc (P := fun j y => y.wf many j ∧ y.vals.length ≤ 3) (x := .th (nmOf k) vs) hwf ⟨⟨nm_ok k, hvw⟩, hvl⟩, by walk_at "lk", by walk_at "lk", by walk_at "lk", trivial⟩
      | da =>
        walk_at "w"
        refine iMod (by decide) fun _ => ?_
        walk_at "w"
        refine strInt (nm_log k) fun _ => ?_
        walk_at "w"
        refine sAdd (fun _ => ?_) (nm_len k)
        walk_at "w"
        refine newT (szl (by simp)) fun T hT => ?_
        walk_at "w"
        refine inTS (mem_led (.head _)) TO.tp (.cons _ _ (.cons _ _ .nil)) ?_
        walk_at "w"
        refine law_values (i := i + 1) (o := o₂) (many := many) (by omega) (by simpa using getR (R := R) (getSet h1)) ho₂ (by omega) (by omega) fun Va o₃ vs Φ₄ sub₄ ho₃ hvl hvw hv => ?_
        have sub₄ : ∀ p ∈ Φ₃, p ∈ Φ₄ := fun p hp => sub₄ p (.tail _ hp)
        rw [List.set_cons_succ, setR (getSet h1), setSet]
        walk_at "w"
        refine appM (mem_of_get (i := 0) rfl) ?_
        walk_at "w"
        refine newT (szl (by simp)) fun T' hT' => ?_
        walk_at "w"
        refine appL (i := 0) rfl (by omega) ?_
        walk_at "w"
        refine ⟨_, rfl, fun p hp => .tail _ (sub₄ p (sub₂ p (sub' p hp))), o₃, us ++ [.ref T'], n + 1, cs ++ [.da (nmOf k) vs], ds ++ [.tuple [.str "data", .str (nmOf k), vsD vs]], tm, rfl, ho₃, (hus.mono fun p hp => .tail _ (sub₄ p (sub₂ p hp))).append (.one (.tuple (.head _) (.cons (.str _ _) (.cons (.str _ _) (.cons (hv.mono fun p hp => .tail _ hp) .nil))))), hds.snoc (.inl .da), by simp; omega, wf_snoc (P := fun j y => y.wf many j ∧ y.vals.length ≤ 3) (x := .da (nmOf k) vs) hwf ⟨⟨nm_ok k, hvw⟩, hvl⟩, by walk_at "lk", by walk_at "lk", by walk_at "lk", trivial⟩
      | pa =>
        walk_at "w"
        refine iMod (by decide) fun _ => ?_
        walk_at "w"
        refine strInt (nm_log k) fun _ => ?_
        walk_at "w"
        refine sAdd (fun _ => ?_) (nm_len k)
        walk_at "w"
        refine take_spec (i := i + 1) (o := o₂) (by omega) (by simpa using getR (R := R) (getSet h1)) ho₂ (by omega) (by omega) fun x tx o₂ hx0 hx1 ho₂ => ?_
        rw [List.set_cons_succ, setR (getSet h1), setSet]
        obtain ⟨x, rfl⟩ : ∃ y : Nat, x = y := ⟨x.toNat, by omega⟩
        walk_at "w"
        refine newT (szl (by simp)) fun T hT => ?_
        walk_at "w"
        refine inTS (mem_led (.head _)) TO.tp (.cons _ _ (.cons _ _ .nil)) ?_
        walk_at "w"
        refine law_values (i := i + 1) (o := o₂) (many := many) (by omega) (by simpa using getR (R := R) (getSet h1)) ho₂ (by omega) (by omega) fun Va o₃ vs Φ₄ sub₄ ho₃ hvl hvw hv => ?_
        have sub₄ : ∀ p ∈ Φ₃, p ∈ Φ₄ := fun p hp => sub₄ p (.tail _ hp)
        rw [List.set_cons_succ, setR (getSet h1), setSet]
        walk_at "w"
        refine appM (mem_of_get (i := 0) rfl) ?_
        walk_at "w"
        refine newT (szl (by simp)) fun T' hT' => ?_
        walk_at "w"
        refine appL (i := 0) rfl (by omega) ?_
        walk_at "w"
        refine ⟨_, rfl, fun p hp => .tail _ (sub₄ p (sub₂ p (sub' p hp))), o₃, us ++ [.ref T'], n + 1, cs ++ [.pa x vs], ds ++ [.tuple [.str "partial", .int x, vsD vs]], tm, rfl, ho₃, (hus.mono fun p hp => .tail _ (sub₄ p (sub₂ p hp))).append (.one (.tuple (.head _) (.cons (.str _ _) (.cons (.int _ _) (.cons (hv.mono fun p hp => .tail _ hp) .nil))))), hds.snoc (.inl .pa), by simp; omega, wf_snoc (P := fun j y => y.wf many j ∧ y.vals.length ≤ 3) (x := .pa x vs) hwf ⟨⟨by omega, hvw⟩, hvl⟩, by walk_at "lk", by walk_at "lk", by walk_at "lk", trivial⟩
      | ho =>
        walk_at "w"
        refine iMod (by decide) fun _ => ?_
        walk_at "w"
        refine strInt (nm_log k) fun _ => ?_
        walk_at "w"
        refine sAdd (fun _ => ?_) (nm_len k)
        walk_at "w"
        refine newT (szl (by simp)) fun T hT => ?_
        walk_at "w"
        refine inTS (mem_led (.head _)) TO.tp (.cons _ _ (.cons _ _ .nil)) ?_
        walk_at "w"
        refine newL (szl (by simp)) fun Va hV => ?_
        walk_at "w"
        refine appM (mem_of_get (i := 0) rfl) ?_
        walk_at "w"
        refine newT (szl (by simp)) fun T' hT' => ?_
        walk_at "w"
        refine appL (i := 0) rfl (by omega) ?_
        walk_at "w"
        refine ⟨_, rfl, fun p hp => .tail _ (.tail _ (.tail _ (sub₂ p (sub' p hp)))), o₂, us ++ [.ref T'], n + 1, cs ++ [.ho], ds ++ [.tuple [.str "hole", .str (nmOf k), .list []]], tm, rfl, ho₂, (hus.mono fun p hp => .tail _ (.tail _ (.tail _ (sub₂ p hp)))).append (.one (.tuple (.head _) (.cons (.str _ _) (.cons (.str _ _) (.cons (.list (.tail _ (.head _)) .nil) .nil))))), hds.snoc (.inl .ho), by simp; omega, wf_snoc (P := fun j y => y.wf many j ∧ y.vals.length ≤ 3) (x := .ho) hwf ⟨trivial, by simp [Cell.vals]⟩, by walk_at "lk", by walk_at "lk", by walk_at "lk", trivial⟩
      | li hk0 =>
        walk_at "w"
        refine iMod (by decide) fun _ => ?_
        walk_at "w"
        refine strInt (nm_log k) fun _ => ?_
        walk_at "w"
        refine sAdd (fun _ => ?_) (nm_len k)
        walk_at "w"
        refine take_spec (i := i + 1) (o := o₂) (by omega) (by simpa using getR (R := R) (getSet h1)) ho₂ (by omega) (by omega) fun x tx o₂ hx0 hx1 ho₂ => ?_
        rw [List.set_cons_succ, setR (getSet h1), setSet]
        obtain ⟨x, rfl⟩ : ∃ y : Nat, x = y := ⟨x.toNat, by omega⟩
        walk_at "w"
        refine newT (szl (by simp)) fun T hT => ?_
        walk_at "w"
        refine inTS (mem_led (.head _)) TO.tp (.cons _ _ (.cons _ _ .nil)) ?_
        walk_at "w"
        refine newL (szl (by simp)) fun Va hV => ?_
        walk_at "w"
        refine appM (mem_of_get (i := 0) rfl) ?_
        walk_at "w"
        refine newT (szl (by simp)) fun T' hT' => ?_
        walk_at "w"
        refine appL (i := 0) rfl (by omega) ?_
        walk_at "w"
        refine ⟨_, rfl, fun p hp => .tail _ (.tail _ (.tail _ (sub₂ p (sub' p hp)))), o₂, us ++ [.ref T'], n + 1, cs ++ [.li x], ds ++ [.tuple [.str "link", .int x, .list []]], tm, rfl, ho₂, (hus.mono fun p hp => .tail _ (.tail _ (.tail _ (sub₂ p hp)))).append (.one (.tuple (.head _) (.cons (.str _ _) (.cons (.int _ _) (.cons (.list (.tail _ (.head _)) .nil) .nil))))), hds.snoc (.inl .li), by simp; omega, wf_snoc (P := fun j y => y.wf many j ∧ y.vals.length ≤ 3) (x := .li x) hwf ⟨by show x < cs.length; omega, by simp [Cell.vals]⟩, by walk_at "lk", by walk_at "lk", by walk_at "lk", trivial⟩
      | pl =>
        walk_at "w"
        refine iMod (by decide) fun _ => ?_
        walk_at "w"
        refine strInt (nm_log k) fun _ => ?_
        walk_at "w"
        refine sAdd (fun _ => ?_) (nm_len k)
        walk_at "w"
        refine newT (szl (by simp)) fun T hT => ?_
        walk_at "w"
        refine inTS (mem_led (.head _)) TO.tp (.cons _ _ (.cons _ _ .nil)) ?_
        walk_at "w"
        refine law_values (i := i + 1) (o := o₂) (many := many) (by omega) (by simpa using getR (R := R) (getSet h1)) ho₂ (by omega) (by omega) fun Va o₃ vs Φ₄ sub₄ ho₃ hvl hvw hv => ?_
        have sub₄ : ∀ p ∈ Φ₃, p ∈ Φ₄ := fun p hp => sub₄ p (.tail _ hp)
        rw [List.set_cons_succ, setR (getSet h1), setSet]
        walk_at "w"
        refine appM (mem_of_get (i := 0) rfl) ?_
        walk_at "w"
        refine newL (szl (by simp)) fun E hE => ?_
        walk_at "w"
        refine dNe (n₁ := Φ₄) (n₂ := (E, lo [] 0) :: Φ₄) hv (fun p hp => mem_led (.tail _ hp)) (.list (.head _) .nil) (fun p hp => mem_led hp) (vsD_ok hvw 7) (by decide +kernel) fun b hb => ?_
        walk_at "w"
        obtain ⟨lv, nv, uv, e, hlv, dav⟩ := dList hv
        cases e
        have hlen' := dav.length
        rw [List.length_map] at hlen'
        cases b with
        | true =>
          walk_at "w"
          refine ⟨Va, uv, rfl, ⟨_, LO.lo, .inl (.tail _ hlv)⟩, by omega, fun Z hZ => ?_⟩
          walk_at "w"
          cases dav2 : vs with
          | nil => exact absurd (hb.mp rfl) (by rw [dav2]; simp [vsD])
          | cons v vs' =>
            rw [dav2, List.map_cons] at dav
            cases dav with
            | @cons u us' _ _ du dn =>
              refine newT (szl (by simp)) fun T' hT' => ?_
              walk_at "w"
              refine appL (i := 0) rfl (by omega) ?_
              walk_at "w"
              refine ⟨_, rfl, fun p hp => .tail _ (.tail _ (.tail _ (sub₄ p (sub₂ p (sub' p hp))))), o₃, us ++ [.ref T'], n + 1, cs ++ [.pl v], ds ++ [.tuple [.str "plain", .str (nmOf k), .list [v.dat]]], tm, rfl, ho₃, (hus.mono fun p hp => .tail _ (.tail _ (.tail _ (sub₄ p (sub₂ p hp))))).append (.one (.tuple (.head _) (.cons (.str _ _) (.cons (.str _ _) (.cons (.list (.tail _ (.head _)) (.cons (du.mono fun p hp => .tail _ (.tail _ (.tail _ hp))) .nil)) .nil))))), hds.snoc (.inl .pl), by simp; omega, wf_snoc (P := fun j y => y.wf many j ∧ y.vals.length ≤ 3) (x := .pl v) hwf ⟨hvw v (dav2 ▸ .head _), by simp [Cell.vals]⟩, by walk_at "lk", by walk_at "lk", by walk_at "lk", trivial⟩
        | false =>
          have hnil : vs = [] := by
            have : ¬ vsD vs ≠ .list [] := fun x => Bool.noConfusion (hb.mpr x)
            have := Classical.not_not.mp this
            simpa [vsD] using this
          subst hnil
          walk_at "w"
          refine newT (szl (by simp)) fun T' hT' => ?_
          walk_at "w"
          refine appL (i := 0) rfl (by omega) ?_
          walk_at "w"
          refine ⟨_, rfl, fun p hp => .tail _ (.tail _ (sub₄ p (sub₂ p (sub' p hp)))), o₃, us ++ [.ref T'], n + 1, cs ++ [.ho], ds ++ [.tuple [.str "plain", .str (nmOf k), .list []]], tm, rfl, ho₃, (hus.mono fun p hp => .tail _ (.tail _ (sub₄ p (sub₂ p hp)))).append (.one (.tuple (.head _) (.cons (.str _ _) (.cons (.str _ _) (.cons (hv.mono fun p hp => .tail _ (.tail _ hp)) .nil))))), hds.snoc (.inr ⟨rfl, nmOf k, rfl⟩), by simp; omega, wf_snoc (P := fun j y => y.wf many j ∧ y.vals.length ≤ 3) (x := .ho) hwf ⟨trivial, by simp [Cell.vals]⟩, by walk_at "lk", by walk_at "lk", by walk_at "lk", trivial⟩
    · rintro m' M' Φ₁ sub ⟨sub', o', us, n, cs, ds, tm, rfl, ho', hus, hds, hlen, hwf, hL⟩
      exact ⟨rfl, sub', o', us, n, cs, ds, rfl, ho', hus, hds, hlen, hwf, by walk_at "lk", trivial⟩
  rintro f m₃ M₃ Φ₃ _ ⟨rfl, sub, o', us, n, cs, ds, rfl, ho', hus, hds, hlen, hwf, hL⟩
  refine EW.frozen ?_
  walk_at "w"
  have hlu := hus.length
  have hld := hds.length
  refine Comp_ (cl := []) ?_ (by with_unfolding_all rfl) (by with_unfolding_all decide) (by with_unfolding_all rfl) (by with_unfolding_all decide) (by with_unfolding_all rfl)
  walk_at "w"
  refine ⟨rfl, us.length, _, fun j ys M' Φ' => M' = M.set i (src, o') ∧ (∀ p ∈ (D, lo us n) :: Φ₃, p ∈ Φ') ∧ ∃ es, DatAll Φ' ys es ∧ RowsD RowD (cs.take j) es, .list ⟨_, LO.lo, .inl (.head _)⟩ (by omega), ⟨?_, ?_⟩, ?_⟩
  · exact ⟨rfl, fun p hp => hp, [], .nil, by rw [List.take_zero]; exact .nil⟩
  · rintro j v ys M' Φ' I oI C oC E m₂ hj hv sub' ⟨rfl, sub₂, es, hys, hes⟩ hC hx
    have hj2 : j < cs.length := by omega
    have hcj : cs[j]? = some cs[j] := List.getElem?_eq_getElem hj2
    obtain ⟨d, hd, hpre⟩ := hds.get hcj
    obtain ⟨v', hv', dv⟩ := datGet hus hd
    rw [hv] at hv'
    cases hv'
    have dv := dv.mono (fun p hp => sub₂ p (.tail _ hp))
    have htake : cs.take (j + 1) = cs.take j ++ [cs[j]] := by rw [List.take_add_one, hcj]; rfl
    have hcell := hcj
    generalize cs[j] = cell at hpre htake hcell
    rcases hpre with hr | ⟨rfl, nm, rfl⟩
    · cases hr with
      | @fn s vs =>
        have dv' := dv
        obtain ⟨t, o, v₁, v₂, v₃, rfl, hm, ho, d₁, d₂, d₃⟩ := tup3 dv
        obtain ⟨t₁, rfl⟩ := dStr d₁
        walk_at "w"
        refine yT (mem_led hm) ho (by decide) (by decide) rfl ?_
        walk_at "w"
        exact ⟨rfl, _, rfl, rfl, fun p hp => sub₂ p hp, es ++ [_], hys.append (.one dv'), by rw [htake]; exact hes.snoc .fn⟩
      | @th s vs =>
        have dv' := dv
        obtain ⟨t, o, v₁, v₂, v₃, rfl, hm, ho, d₁, d₂, d₃⟩ := tup3 dv
        obtain ⟨t₁, rfl⟩ := dStr d₁
        walk_at "w"
        refine yT (mem_led hm) ho (by decide) (by decide) rfl ?_
        walk_at "w"
        exact ⟨rfl, _, rfl, rfl, fun p hp => sub₂ p hp, es ++ [_], hys.append (.one dv'), by rw [htake]; exact hes.snoc .th⟩
      | @da s vs =>
        have dv' := dv
        obtain ⟨t, o, v₁, v₂, v₃, rfl, hm, ho, d₁, d₂, d₃⟩ := tup3 dv
        obtain ⟨t₁, rfl⟩ := dStr d₁
        walk_at "w"
        refine yT (mem_led hm) ho (by decide) (by decide) rfl ?_
        walk_at "w"
        exact ⟨rfl, _, rfl, rfl, fun p hp => sub₂ p hp, es ++ [_], hys.append (.one dv'), by rw [htake]; exact hes.snoc .da⟩
      | @pa a vs =>
        have dv' := dv
        obtain ⟨t, o, v₁, v₂, v₃, rfl, hm, ho, d₁, d₂, d₃⟩ := tup3 dv
        obtain ⟨t₁, rfl⟩ := dStr d₁
        walk_at "w"
        refine yT (mem_led hm) ho (by decide) (by decide) rfl ?_
        walk_at "w"
        exact ⟨rfl, _, rfl, rfl, fun p hp => sub₂ p hp, es ++ [_], hys.append (.one dv'), by rw [htake]; exact hes.snoc .pa⟩
      | @ho nm =>
        have dv' := dv
        obtain ⟨t, o, v₁, v₂, v₃, rfl, hm, ho, d₁, d₂, d₃⟩ := tup3 dv
        obtain ⟨t₁, rfl⟩ := dStr d₁
        walk_at "w"
        refine yT (mem_led hm) ho (by decide) (by decide) rfl ?_
        walk_at "w"
        exact ⟨rfl, _, rfl, rfl, fun p hp => sub₂ p hp, es ++ [_], hys.append (.one dv'), by rw [htake]; exact hes.snoc .ho⟩
      | @li a =>
        have dv' := dv
        obtain ⟨t, o, v₁, v₂, v₃, rfl, hm, ho, d₁, d₂, d₃⟩ := tup3 dv
        obtain ⟨t₁, rfl⟩ := dStr d₁
        walk_at "w"
        refine yT (mem_led hm) ho (by decide) (by decide) rfl ?_
        walk_at "w"
        exact ⟨rfl, _, rfl, rfl, fun p hp => sub₂ p hp, es ++ [_], hys.append (.one dv'), by rw [htake]; exact hes.snoc .li⟩
      | @pl v nm =>
        have dv' := dv
        obtain ⟨t, o, v₁, v₂, v₃, rfl, hm, ho, d₁, d₂, d₃⟩ := tup3 dv
        obtain ⟨t₁, rfl⟩ := dStr d₁
        walk_at "w"
        refine yT (mem_led hm) ho (by decide) (by decide) rfl ?_
        walk_at "w"
        refine yT (mem_led hm) ho (by decide) (by decide) rfl ?_
        walk_at "w"
        refine newL (szl (by simp)) fun Z hZ => ?_
        walk_at "w"
        have hwv : v.wf many := (hwf j _ hcell).1
        refine dEq (n₁ := Φ') (n₂ := (Z, lo [] 0) :: Φ') d₃ (fun p hp => mem_led (.tail _ hp)) (.list (.head _) .nil) (fun p hp => mem_led hp) (vsD_ok (vs := [v]) (n := many) (fun x hx => by rw [List.mem_singleton.mp hx]; exact hwv) 7) (by decide +kernel) fun b hb => ?_
        obtain rfl : b = false := by
          cases b with
          | false => rfl
          | true => have := hb.mp rfl; simp at this
        walk_at "w"
        exact ⟨rfl, _, rfl, rfl, fun p hp => .tail _ (sub₂ p hp), es ++ [_], (hys.mono fun p hp => .tail _ hp).append (.one (dv'.mono fun p hp => .tail _ hp)), by rw [htake]; exact hes.snoc .pl⟩
    · have dv' := dv
      obtain ⟨t, o, v₁, v₂, v₃, rfl, hm, ho, d₁, d₂, d₃⟩ := tup3 dv
      obtain ⟨t₁, rfl⟩ := dStr d₁
      walk_at "w"
      refine yT (mem_led hm) ho (by decide) (by decide) rfl ?_
      walk_at "w"
      refine yT (mem_led hm) ho (by decide) (by decide) rfl ?_
      walk_at "w"
      refine newL (szl (by simp)) fun Z hZ => ?_
      walk_at "w"
      refine dEq (n₁ := Φ') (n₂ := (Z, lo [] 0) :: Φ') d₃ (fun p hp => mem_led (.tail _ hp)) (.list (.head _) .nil) (fun p hp => mem_led hp) (by decide +kernel) (by decide +kernel) fun b hb => ?_
      obtain rfl : b = true := hb.mpr rfl
      walk_at "w"
      refine newL (szl (by simp)) fun Z' hZ' => ?_
      walk_at "w"
      refine newT (szl (by simp)) fun T hT => ?_
      exact ⟨rfl, _, rfl, rfl, fun p hp => .tail _ (.tail _ (.tail _ (sub₂ p hp))), es ++ [_], (hys.mono fun p hp => .tail _ (.tail _ (.tail _ hp))).append (.one (.tuple (.head _) (.cons (.str _ _) (.cons (.str _ _) (.cons (.list (.tail _ (.head _)) .nil) .nil))))), by rw [htake]; exact hes.snoc .ho⟩
  · rintro ys M' Φ' E sub' ⟨rfl, sub₂, es, hys, hes⟩
    rw [hlu, ← hld, List.take_length] at hes
    refine h E o' cs _ (fun p hp => .tail _ (sub₂ p (.tail _ (sub p hp)))) ho' ⟨fun j x e => by rw [hlen]; exact (hwf j x e).1, fun j x e => (hwf j x e).2, by omega⟩ (by omega) ⟨ys, ys.length, es, .head _, hys.mono (fun p hp => .tail _ hp), hes⟩
end

end

section
-- part law2
def kindS : Cell → PySem.Str
  | .fn _ _ => "function"
  | .th _ _ => "thunk"
  | .pa _ _ => "partial"
  | .da _ _ => "data"
  | .ho => "hole"
  | .pl _ => "plain"
  | .li _ => "link"
theorem RowD.parts {c : Cell} {d : Dat} (h : RowD c d) : ∃ e, d = .tuple [.str (kindS c), e, vsD c.vals] := by
  cases h <;> exact ⟨_, rfl⟩
section
variable {c : Cx} {m : Loc} {M Φ : Led} {Q : Value → Loc → Led → Led → Prop}
theorem law_end {l : Addr} {rows : List Cell} {a : Nat} {t : Tok} (hn : 1 ≤ c.n) (hr : RowsAt Φ l rows) (wf : WF rows) (ha : a < rows.length) (h : ∀ t, Q (.int (endOf rows a) t) m M Φ) : EW c (call (.ref 363) [.ref l, .int a t]) m M Φ Q := by
  refine call_def (f := 363) (binds := [("rows", .ref l), ("at", .int a t)]) (by k_is) (by k_is) (by omega) (by rfl) (locs rfl) rfl rfl rfl (by decide) fun c' hw hn' keep => ?_
  obtain ⟨us, n, hl, hlen, get⟩ := hr.get
  have hmany := wf.many
  refine execs_cons (EW.mono (Q := fun f m' M' Φ' => f = .next ∧ M' = M ∧ Φ' = Φ ∧ ∃ t, m' "at" = some (.int (endOf rows a) t)) (While_ (fun k m' M' Φ' => M' = M ∧ Φ' = Φ ∧ ∃ b t, k = b ∧ b < rows.length ∧ endOf rows b = endOf rows a ∧ Locs m' [("rows", .ref l), ("at", .int b t)]) a ?_ ?_) ?_)
  · exact ⟨rfl, rfl, a, t, rfl, ha, rfl, by walk_at "lk", by walk_at "lk", trivial⟩
  · rintro k m' M' Φ' sub ⟨rfl, rfl, b, t, rfl, hb, he, hL⟩
    have hcell : rows[k]? = some rows[k] := List.getElem?_eq_getElem hb
    obtain ⟨v, d, hv, hd, hrow⟩ := get _ _ hcell
    generalize rows[k] = cell at hcell hrow
    walk_at "w"
    refine yL (mem_led hl) LO.lo (by omega) (by omega) (by simpa using hv) ?_
    walk_at "w"
    by_cases hli : ∃ b', cell = .li b'
    · obtain ⟨b', rfl⟩ := hli
      cases hrow
      obtain ⟨T, o, v₁, v₂, v₃, rfl, hm, ho, d₁, d₂, d₃⟩ := tup3 hd
      obtain ⟨t₁, rfl⟩ := dStr d₁
      obtain ⟨t₂, rfl⟩ := dInt d₂
      refine yT (mem_led hm) ho (by decide) (by decide) rfl ?_
      walk_at "w"
      refine yL (mem_led hl) LO.lo (by omega) (by omega) (by simpa using hv) ?_
      walk_at "w"
      refine yT (mem_led hm) ho (by decide) (by decide) rfl ?_
      walk_at "w"
      have hlt := wf.li hcell
      exact ⟨b', hlt, rfl, rfl, b', t₂, rfl, by omega, by rw [← endOf_li wf hcell]; exact he, by walk_at "lk", by walk_at "lk", trivial⟩
    · have hc : cell.isLi = false := by cases cell <;> first | rfl | exact absurd ⟨_, rfl⟩ hli
      have e := endOf_stop hcell hc
      have fin : m' "at" = some (.int (endOf rows a) t) := by rw [← he, e]; exact hL.get (by with_unfolding_all rfl)
      cases hrow <;> first
        | exact absurd ⟨_, rfl⟩ hli
        | (obtain ⟨T, o, v₁, v₂, v₃, rfl, hm, ho, d₁, d₂, d₃⟩ := tup3 hd
           obtain ⟨t₁, rfl⟩ := dStr d₁
           refine yT (mem_led hm) ho (by decide) (by decide) rfl ?_
           walk_at "w"
           exact ⟨rfl, rfl, rfl, t, fin⟩)
  · rintro f m' M' Φ' sub ⟨rfl, rfl, rfl, t, ht⟩
    walk_at "st"
    walk_at "st"
    refine nL ht ?_
    exact h t
end

end

section
-- part law3
def Cell.hdn : Cell → List Nat
  | .pa a _ => [a]
  | .li a => [a]
  | _ => []
theorem named_eq (c : Cell) : c.named = c.hdn ++ c.vals.flatMap V.refs := by
  cases c <;> simp [Cell.named, Cell.hdn, Cell.vals]
theorem take_flat {vs : List V} {j : Nat} {v : V} (h : vs[j]? = some v) : (vs.take (j + 1)).flatMap V.refs = (vs.take j).flatMap V.refs ++ v.refs := by
  rw [List.take_add_one, h]
  simp
local macro_rules | `(tactic| walk_at "nm") => `(tactic| ((with_reducible show EW _ (eval (Expr.Name _ _) (compEnvC _ _ _ _)) _ _ _ _); (with_reducible refine nCL (List.mem_append_left _ (List.Mem.tail _ (List.Mem.head _))) (by assumption) (by assumption) ?_)))
section
variable {c : Cx} {m : Loc} {M Φ : Led} {Q : Value → Loc → Led → Led → Prop}
theorem law_named {l : Addr} {rows : List Cell} {a : Nat} {t : Tok} {cell : Cell} (hn : 1 ≤ c.n) (hr : RowsAt Φ l rows) (hcell : rows[a]? = some cell) (ha : a < 1000) (hz : cell.vals.length ≤ 1000)
    (h : ∀ D us n Φ', (∀ p ∈ Φ, p ∈ Φ') → (D, lo us n) ∈ Φ' → IntL us cell.named → Q (.ref D) m M Φ') : EW c (call (.ref 368) [.ref l, .int a t]) m M Φ Q := by
  refine EW.freeze ?_
  refine call_def (f := 368) (binds := [("rows", .ref l), ("at", .int a t)]) (by k_is) (by k_is) (by omega) (by rfl) (locs rfl) rfl rfl rfl (by decide) fun c' hw hn' keep => ?_
  obtain ⟨us, n, hl, hlen, get⟩ := hr.get
  obtain ⟨v, d, hv, hd, hrow⟩ := get _ _ hcell
  obtain ⟨e, he⟩ := hrow.parts
  have hd' := he ▸ hd
  obtain ⟨T, o, v₁, v₂, v₃, rfl, hm, ho, d₁, d₂, d₃⟩ := tup3 hd'
  obtain ⟨t₁, rfl⟩ := dStr d₁
  obtain ⟨lv, nv, uv, rfl, hlv, dav⟩ := dList d₃
  have hlu := dav.length
  rw [List.length_map] at hlu
  refine execs_cons (EW.mono (Q := fun f m' M' Φ' => f = .next ∧ M' = M ∧ Φ' = Φ ∧ Locs m' [("kind", .str (kindS cell) t₁), ("name", v₂), ("values", .ref lv)]) ?_ ?_)
  · walk_at "w"
    refine yL (mem_led hl) LO.lo (by omega) (by omega) (by simpa using hv) ?_
    walk_at "w"
    refine ⟨T, o, _, _, _, rfl, mem_led hm, ho, ?_⟩
    walk_at "w"
    exact ⟨rfl, rfl, rfl, by walk_at "lk", by walk_at "lk", by walk_at "lk", trivial⟩
  rintro f m₁ M₁ Φ₁ _ ⟨rfl, rfl, rfl, hL⟩
  walk_at "st"
  walk_at "st"
  refine BinOp_ ?_
  refine EW.mono (Q := fun v m' M' Φ' => m' = m₁ ∧ M' = M₁ ∧ (∀ p ∈ Φ₁, p ∈ Φ') ∧ ∃ D us n, v = .ref D ∧ (D, lo us n) ∈ Φ' ∧ IntL us cell.hdn) ?_ ?_
  · walk_at "w"
    refine newT (szl (by simp)) fun T' hT => ?_
    walk_at "w"
    refine inTS (mem_led (.head _)) TO.tp (.cons _ _ (.cons _ _ .nil)) ?_
    walk_at "w"
    cases hrow with
    | @pa x vs =>
      refine ite_T (by dsimp only [kindS]; with_unfolding_all decide) ?_
      walk_at "w"
      obtain ⟨t₂, rfl⟩ : ∃ t₂, v₂ = .int x t₂ := by cases he; exact dInt d₂
      refine newL (szl (by simp)) fun D hD => ?_
      exact ⟨rfl, rfl, fun p hp => .tail _ (.tail _ hp), D, _, 0, rfl, .head _, IntL.snoc (vs := []) (ns := []) IntL.nil x t₂⟩
    | @li x =>
      refine ite_T (by dsimp only [kindS]; with_unfolding_all decide) ?_
      walk_at "w"
      obtain ⟨t₂, rfl⟩ : ∃ t₂, v₂ = .int x t₂ := by cases he; exact dInt d₂
      refine newL (szl (by simp)) fun D hD => ?_
      exact ⟨rfl, rfl, fun p hp => .tail _ (.tail _ hp), D, _, 0, rfl, .head _, IntL.snoc (vs := []) (ns := []) IntL.nil x t₂⟩
    | _ =>
      refine ite_F (by dsimp only [kindS]; with_unfolding_all decide) ?_
      walk_at "w"
      refine newL (szl (by simp)) fun D hD => ?_
      exact ⟨rfl, rfl, fun p hp => .tail _ (.tail _ hp), D, _, 0, rfl, .head _, IntL.nil⟩
  rintro v m' M' Φ' _ ⟨rfl, rfl, sub', D, hs, nh, rfl, hD, hhs⟩
  have hhl : hs.length ≤ 1 := by rw [hhs.length]; cases cell <;> simp [Cell.hdn]
  refine EW.mono (Q := fun v m₂ M₂ Φ₂ => m₂ = m' ∧ M₂ = M' ∧ (∀ p ∈ Φ', p ∈ Φ₂) ∧ ∃ D us n, v = .ref D ∧ (D, lo us n) ∈ Φ₂ ∧ IntL us (cell.vals.flatMap V.refs)) ?_ ?_
  · refine CompT_ (cl := []) ?_ (by with_unfolding_all rfl) (by with_unfolding_all decide) (by with_unfolding_all rfl) (by with_unfolding_all decide) (by with_unfolding_all rfl)
    walk_at "w"
    refine ⟨rfl, uv.length, _, fun j ys M₂ Φ₂ => M₂ = M' ∧ (∀ p ∈ Φ', p ∈ Φ₂) ∧ IntL ys ((cell.vals.take j).flatMap V.refs), .list ⟨_, LO.lo, .inl (sub' _ hlv)⟩ (by omega), ⟨?_, ?_⟩, ?_⟩
    · exact ⟨rfl, fun p hp => hp, by rw [List.take_zero]; exact IntL.nil⟩
    · rintro j v ys M₂ Φ₂ I oI C oC E m₂ hj hv' sub₂ ⟨rfl, sub₃, hys⟩ hC hx
      have hj2 : j < cell.vals.length := by omega
      have hvj : cell.vals[j]? = some cell.vals[j] := List.getElem?_eq_getElem hj2
      have htk := take_flat hvj
      obtain ⟨v', hv₂, dv⟩ := datGet dav (i := j) (d := (cell.vals[j]).dat) (by rw [List.getElem?_map, hvj]; rfl)
      rw [hv'] at hv₂
      cases hv₂
      have dv := dv.mono (fun p hp => sub₃ p (sub' p hp))
      generalize cell.vals[j] = x at dv htk
      cases x with
      | int i =>
        obtain ⟨T, o, w₁, w₂, rfl, hm, ho, d₁, d₂⟩ := tup2 dv
        obtain ⟨t₁, rfl⟩ := dStr d₁
        walk_at "w"
        refine yT (mem_led hm) ho (by decide) (by decide) rfl ?_
        walk_at "w"
        exact ⟨rfl, _, rfl, rfl, sub₃, by rw [htk]; simpa [V.refs] using hys⟩
      | ch i =>
        obtain ⟨T, o, w₁, w₂, rfl, hm, ho, d₁, d₂⟩ := tup2 dv
        obtain ⟨t₁, rfl⟩ := dStr d₁
        walk_at "w"
        refine yT (mem_led hm) ho (by decide) (by decide) rfl ?_
        walk_at "w"
        exact ⟨rfl, _, rfl, rfl, sub₃, by rw [htk]; simpa [V.refs] using hys⟩
      | «at» b =>
        obtain ⟨T, o, w₁, w₂, rfl, hm, ho, d₁, d₂⟩ := tup2 dv
        obtain ⟨t₁, rfl⟩ := dStr d₁
        obtain ⟨t₂, rfl⟩ := dInt d₂
        walk_at "w"
        refine yT (mem_led hm) ho (by decide) (by decide) rfl ?_
        walk_at "w"
        refine yT (mem_led hm) ho (by decide) (by decide) rfl ?_
        exact ⟨rfl, _, rfl, rfl, sub₃, by rw [htk]; exact hys.snoc b t₂⟩
    · rintro ys M₂ Φ₂ E sub₂ ⟨rfl, sub₃, hys⟩
      rw [hlu, List.take_length] at hys
      exact ⟨rfl, rfl, fun p hp => .tail _ (sub₃ p hp), E, ys, _, rfl, .head _, hys⟩
  rintro v m₂ M₂ Φ₂ _ ⟨rfl, rfl, sub₂, E, es, ne, rfl, hE, hes⟩
  have hel : es.length ≤ cell.vals.length := by
    rw [hes.length]
    generalize cell.vals = vs
    induction vs with
    | nil => exact Nat.le_refl _
    | cons v vs ih =>
      rw [List.flatMap_cons, List.length_append, List.length_cons]
      have : v.refs.length ≤ 1 := by cases v <;> simp [V.refs]
      omega
  refine addL (mem_led (sub₂ _ hD)) LO.lo (mem_led hE) LO.lo (by omega) fun Z hZ => ?_
  walk_at "w"
  exact ⟨_, _, rfl, h Z (hs ++ es) 0 _ (fun p hp => .tail _ (sub₂ p (sub' p hp))) (.head _) (by rw [named_eq]; exact hhs.app hes)⟩
end

end

section
-- part LzPrim7
section
variable {c : Cx} {m : Loc} {M Φ : Led} {env : Env}
theorem unpT {t : Addr} {o : Obj} {vs : List Value} {n : Nat} {Q : List Value → Loc → Led → Led → Prop} (hm : (t, o) ∈ M ++ Φ) (ho : TO o vs) (hn : n = vs.length) (h : Q vs m M Φ) : EW c (unpackItems (.ref t) n none) m M Φ Q :=
  EW.mk fun G s S => unpackItemsN_ S.F S.N (ho.at S hm) G.handled (by simpa using hn) fun h' F N => by
    have : Q vs.toArray.toList m M Φ := by simpa using h
    exact Post.here (tk' := s.toks) (S.frm F N) (fun _ h => h) this
theorem AssignSwap2_ {x₁ x₂ : PySem.Str} {p₁ p₂ tpos pos : Pos} {k : Nat} {value : Expr} {Q : Flow → Loc → Led → Led → Prop}
    (h : EW c (eval value env) m M Φ (fun v m M Φ => ∃ t o v₁ v₂, v = .ref t ∧ (t, o) ∈ M ++ Φ ∧ TO o [v₁, v₂] ∧ EW c (storeName env x₂ v₂) m M Φ (fun _ m M Φ => EW c (storeName env x₁ v₁) m M Φ (fun _ => Q .next))))
    (h1 : swapsWithSole [.Tuple [.Name x₁ p₁, .Name x₂ p₂] k tpos] value pos.line env = Pure.pure false := by with_unfolding_all rfl) (h2 : swappedStores [.Tuple [.Name x₁ p₁, .Name x₂ p₂] k tpos] value env = Pure.pure (some [x₁, x₂]) := by with_unfolding_all rfl) :
    EW c (exec (.Assign [.Tuple [.Name x₁ p₁, .Name x₂ p₂] k tpos] value pos) env) m M Φ Q :=
  AssignSwap_ (names := [x₁, x₂]) (h.mono fun v m' M' Φ' _ ⟨t, o, v₁, v₂, e, hm, ho, q⟩ => by
    subst e
    exact unpT hm ho rfl (ord_more (bindN (q.mono fun _ _ _ _ _ q => ord_more (bindN (q.mono fun _ _ _ _ _ q => ord_none q)))))) h1 h2
end

end

section
-- part law4
theorem snoc_of {ns : List Nat} (h : ns ≠ []) : ∃ l a, ns = l ++ [a] := ⟨ns.dropLast, ns.getLast h, (List.dropLast_concat_getLast h).symm⟩
section
variable {c : Cx} {m : Loc} {M Φ : Led} {Q : Value → Loc → Led → Led → Prop}
theorem law_reached {l r : Addr} {rows : List Cell} {roots : List Nat} {rs : List Value} {nr : Nat} (hn : 2 ≤ c.n) (hr : RowsAt Φ l rows) (wf : WF rows) (hrs : (r, lo rs nr) ∈ Φ) (hri : IntL rs roots) (hlt : ∀ a ∈ roots, a < rows.length) (hz : roots.length ≤ 9)
    (h : ∀ D us n met Φ', (∀ p ∈ Φ, p ∈ Φ') → (D, lo us n) ∈ Φ' → IntL us met → met.Nodup → (∀ a, a ∈ met ↔ Reach rows roots a) → Q (.ref D) m M Φ') : EW c (call (.ref 375) [.ref l, .ref r]) m M Φ Q := by
  refine call_def (f := 375) (binds := [("rows", .ref l), ("roots", .ref r)]) (by k_is) (by k_is) (by omega) (by rfl) (locs rfl) rfl rfl rfl (by decide) fun c' hw hn' keep => ?_
  have hrl := hri.length
  have hmany := wf.many
  refine execs_cons (EW.mono (Q := fun f m' M' Φ' => f = .next ∧ (∀ p ∈ Φ, p ∈ Φ') ∧ ∃ L us n F, M' = (L, lo us n) :: (F, lo [] 0) :: M ∧ IntL us roots ∧ Locs m' [("rows", .ref l), ("roots", .ref r), ("found", .ref F), ("left", .ref L)]) ?_ ?_)
  · refine AssignSwap2_ ?_
    walk_at "w"
    refine newLM (szl (by simp)) fun F hF => ?_
    walk_at "w"
    refine copyL ⟨_, LO.lo, .inl hrs⟩ (by omega) fun L nL hL => ?_
    walk_at "w"
    refine newT (szl (by simp)) fun T hT => ?_
    refine ⟨T, _, _, _, rfl, mem_led (.head _), TO.tp, ?_⟩
    walk_at "w"
    exact ⟨rfl, fun p hp => .tail _ hp, L, rs, nL, F, rfl, hri, by walk_at "lk", by walk_at "lk", by walk_at "lk", by walk_at "lk", trivial⟩
  rintro f m₁ M₁ Φ₁ _ ⟨rfl, sub₁, L, us, n, F, rfl, hus, hL₁⟩
  refine execs_cons (EW.mono (Q := fun f m' M' Φ' => f = .next ∧ (∀ p ∈ Φ, p ∈ Φ') ∧ ∃ L F fs k found, M' = (L, lo [] k) :: (F, lo fs found.length) :: M ∧ IntL fs found ∧ SInv rows roots found [] ∧ Locs m' [("found", .ref F)])
    (While_ (fun k m' M' Φ' => (∀ p ∈ Φ, p ∈ Φ') ∧ ∃ L us n F fs found left, M' = (L, lo us n) :: (F, lo fs found.length) :: M ∧ IntL us left ∧ IntL fs found ∧ SInv rows roots found left ∧ k = 5 * (9 - found.length) + left.length ∧ left.length ≤ 9 + 4 * found.length ∧ Locs m' [("rows", .ref l), ("found", .ref F), ("left", .ref L)]) (5 * (9 - 0) + roots.length) ?_ ?_) ?_)
  · exact ⟨sub₁, L, us, n, F, [], [], roots, rfl, hus, IntL.nil, SInv.start, rfl, by omega, by walk_at "lk", by walk_at "lk", by walk_at "lk", trivial⟩
  · rintro k m' M' Φ' _ ⟨sub', L, us, n, F, fs, found, left, rfl, hus, hfs, I, rfl, hleft, hLo⟩
    have hul := hus.length
    have hfl := hfs.length
    have hfm := I.many wf hlt
    walk_at "w"
    refine newL (szl (by simp)) fun Z hZ => ?_
    walk_at "w"
    refine dNe (n₁ := (L, lo us n) :: (F, lo fs found.length) :: M ++ (Z, lo [] 0) :: Φ') (n₂ := (Z, lo [] 0) :: Φ') (.list (.head _) (hus.dat _)) (fun p hp => hp) (.list (.head _) .nil) (fun p hp => mem_led hp) (by show (left.map _).all (kqdOk 8) = true; simp [kqdOk]) (by decide +kernel) fun b hb => ?_
    walk_at "w"
    cases b with
    | false =>
      have hnil : left = [] := by
        have := Classical.not_not.mp fun x => Bool.noConfusion (hb.mpr x)
        simpa using this
      subst hnil
      have hun : us = [] := by cases us with
        | nil => rfl
        | cons _ _ => simp at hul
      subst hun
      exact ⟨rfl, fun p hp => .tail _ (sub' p hp), L, F, fs, n, found, rfl, hfs, I, by walk_at "lk", trivial⟩
    | true =>
      have hne : left ≠ [] := fun e => by subst e; exact hb.mp rfl rfl
      obtain ⟨left, a, rfl⟩ := snoc_of hne
      have hal : a < rows.length := (I.lr a (List.mem_append_right _ (.head _))).lt wf hlt
      rw [List.length_append, List.length_singleton] at hul hleft
      walk_at "w"
      refine popM (mem_of_get (i := 0) rfl) ?_
      walk_at "w"
      refine popL (i := 0) rfl hus (by omega) (by omega) fun ta hpop => ?_
      rw [List.map_append, List.map_singleton, List.dropLast_concat] at hpop
      have hpop : IntL us.dropLast left := hpop
      have ea : ((left ++ [a]).map fun n => ((n : Nat) : Int)).getLastD 0 = (a : Int) := by rw [List.map_append, List.map_singleton, List.getLastD_concat]
      rw [ea]
      walk_at "w"
      refine dNotIn (n₁ := []) (n₂ := []) (by exact .tail _ (.head _)) LO.lo (hfs.dat _) (fun p hp => nomatch hp) (.int _ _) (fun p hp => nomatch hp) (by intro d hd; obtain ⟨x, _, rfl⟩ := List.mem_map.mp hd; rfl) rfl fun b hb => ?_
      rw [int_mem] at hb
      walk_at "w"
      cases b with
      | false =>
        have hin : a ∈ found := Classical.not_not.mp fun x => Bool.noConfusion (hb.mpr x)
        walk_at "w"
        refine ⟨5 * (9 - found.length) + left.length, by rw [List.length_append, List.length_singleton]; omega, fun p hp => .tail _ (sub' p hp), L, us.dropLast, n + 1, F, fs, found, left, rfl, hpop, hfs, I.skip hin, rfl, by omega, by walk_at "lk", by walk_at "lk", by walk_at "lk", trivial⟩
      | true =>
        have hni : a ∉ found := hb.mp rfl
        have hcell : rows[a]? = some rows[a] := List.getElem?_eq_getElem hal
        have I' := I.take hni hcell
        have hm' := I'.many wf hlt
        have hnl := named_len wf hcell
        have hvl := wf.vals a _ hcell
        rw [List.length_append, List.length_singleton] at hm'
        walk_at "w"
        refine appM (mem_of_get (i := 1) rfl) ?_
        walk_at "w"
        refine appL (i := 1) rfl (by omega) ?_
        walk_at "w"
        refine law_named (cell := rows[a]) (by omega) (hr.sub fun p hp => .tail _ (sub' p hp)) hcell (by omega) (by omega) fun E es ne Φ₂ sub₂ hE hes => ?_
        have hel := hes.length
        walk_at "w"
        refine addL (by exact .head _) LO.lo (mem_led hE) LO.lo (by rw [List.length_dropLast]; omega) fun D' hD' => ?_
        refine EW.permIn (.swap _ _ _) (EW.frozen ?_)
        walk_at "w"
        refine ⟨5 * (9 - (found.length + 1)) + (left ++ rows[a].named).length, by simp only [List.length_append, List.length_singleton]; omega, fun p hp => .tail _ (sub₂ p (.tail _ (sub' p hp))), D', us.dropLast ++ es, 0, F, fs ++ [.int a ta], found ++ [a], left ++ rows[a].named, by simp, hpop.app hes, hfs.snoc a ta, I', by simp, by simp only [List.length_append, List.length_singleton]; omega, by walk_at "lk", by walk_at "lk", by walk_at "lk", trivial⟩
  · rintro f m₂ M₂ Φ₂ _ ⟨rfl, sub₂, L, F, fs, k, found, rfl, hfs, I, hLo⟩
    refine EW.frozen (EW.frozen ?_)
    walk_at "w"
    exact h F fs _ found _ (fun p hp => .tail _ (.tail _ (sub₂ p hp))) (.head _) hfs I.fn I.fin
end

end

section
-- part law5
/-- the moved addresses, as a dict tells them -/
def MvIs (kvs : List (Int × Value)) (f : Nat → Nat) (bs : List Nat) : Prop := ∀ b ∈ bs, ∃ t, valueAt kvs (b : Nat) = some (.int (f b : Nat) t)
local macro_rules | `(tactic| walk_at "mem") => `(tactic| first
  | assumption
  | exact List.Mem.head _
  | (refine List.Mem.tail _ ?_; walk_at "mem"))
local macro_rules | `(tactic| walk_at "nm") => `(tactic| first
  | ((with_reducible show EW _ (eval (Expr.Name _ _) (compEnvC _ _ _ _)) _ _ _ _); first
    | (with_reducible refine nCL (List.mem_append_left _ (List.Mem.tail _ (List.Mem.head _))) (by assumption) (by assumption) ?_)
    | ((with_reducible refine' nCC ?hc (List.mem_append_right _ ?hm) ?hd ?_); (case hc => with_unfolding_all rfl); (case hm => walk_at "mem"); (case hd => assumption)))
  | ((with_reducible show EW _ (eval (Expr.Name _ _) _) _ _ _ _);
     ((with_reducible refine' nC ?hc (List.mem_append_right _ ?hm) ?hd ?_); (case hc => with_unfolding_all rfl); (case hm => walk_at "mem"); (case hd => assumption))))
section
variable {c : Cx} {m : Loc} {M Φ : Led} {Q : Value → Loc → Led → Led → Prop}
theorem law_mended {l mv : Addr} {rows : List Cell} {a : Nat} {t : Tok} {cell : Cell} {o : Obj} {kvs : List (Int × Value)} {f : Nat → Nat} (hn : 2 ≤ c.n) (hr : RowsAt Φ l rows) (wf : WF rows) (hcell : rows[a]? = some cell) (hli : cell.isLi = false)
    (hm : (mv, o) ∈ Φ) (ho : DO c.w mv o kvs) (hf : ∀ b ∈ cell.named, ∃ t, valueAt kvs (endOf rows b : Nat) = some (.int (f b : Nat) t))
    (h : ∀ v Φ', (∀ p ∈ Φ, p ∈ Φ') → DatIn Φ' v (cell.map f).out → Q v m M Φ') : EW c (call (.ref 380) [.ref l, .ref mv, .int a t]) m M Φ Q := by
  refine call_defC (f := 380) (binds := [("rows", .ref l), ("moved", .ref mv), ("at", .int a t)]) (cl := fun L => [("moved", L + 2), ("rows", L + 1)]) (by k_is) (by k_is) (by omega) (by rfl) (by with_unfolding_all rfl) (by with_unfolding_all decide) (fun _ => rfl) (fun L x hx => by rcases List.mem_cons.mp hx with rfl | hx; exact Nat.lt_add_of_pos_right (by decide); rw [List.mem_singleton.mp hx]; exact Nat.lt_succ_self _) rfl rfl rfl fun c' cells hw hn' hcells => ?_
  obtain ⟨o₁, o₂, rfl, e1, e2⟩ := hcells.two
  have e1 : o₁.data = .cell (some (.ref mv)) := e1
  have e2 : o₂.data = .cell (some (.ref l)) := e2
  rw [← hw] at ho
  obtain ⟨us, n, hl, hlen, get⟩ := hr.get
  obtain ⟨v, d, hv, hd, hrow⟩ := get _ _ hcell
  obtain ⟨e, he⟩ := hrow.parts
  have hd' := he ▸ hd
  obtain ⟨T, oT, v₁, v₂, v₃, rfl, hmT, hoT, d₁, d₂, d₃⟩ := tup3 hd'
  obtain ⟨t₁, rfl⟩ := dStr d₁
  obtain ⟨lv, nv, uv, rfl, hlv, dav⟩ := dList d₃
  have hlu := dav.length
  rw [List.length_map] at hlu
  have hvl := wf.vals a _ hcell
  have hmany := wf.many
  have hal := lt_of_get hcell
  refine execs_cons (EW.mono (Q := fun f m' M' Φ' => f = .next ∧ M' = M ∧ (∀ p ∈ (c'.L + 2, o₁) :: (c'.L + 1, o₂) :: Φ, p ∈ Φ') ∧ Locs m' [("kind", .str (kindS cell) t₁), ("name", v₂), ("values", .ref lv)]) ?_ ?_)
  · generalize hm0 : bindL _ _ _ = m₀
    have hL : Locs m₀ [("at", .int a t)] := by rw [← hm0]; exact ⟨by with_unfolding_all rfl, trivial⟩
    clear hm0
    walk_at "w"
    refine yL (mem_led (.tail _ (.tail _ hl))) LO.lo (by omega) (by omega) (by simpa using hv) ?_
    walk_at "w"
    refine ⟨T, oT, _, _, _, rfl, mem_led (.tail _ (.tail _ hmT)), hoT, ?_⟩
    walk_at "w"
    exact ⟨rfl, rfl, fun p hp => hp, by walk_at "lk", by walk_at "lk", by walk_at "lk", trivial⟩
  rintro f' m₁ M₁ Φ₁ _ ⟨rfl, rfl, sub₁, hL⟩
  have k1 := sub₁ _ (.head _)
  have k2 := sub₁ _ (.tail _ (.head _))
  have sub₁ : ∀ p ∈ Φ, p ∈ Φ₁ := fun p hp => sub₁ p (.tail _ (.tail _ hp))
  -- told
  refine execs_cons (EW.mono (Q := fun f' m' M' Φ' => f' = .next ∧ M' = M₁ ∧ (∀ p ∈ Φ₁, p ∈ Φ') ∧ ∃ D us n, (D, lo us n) ∈ Φ' ∧ DatAll Φ' us ((cell.vals.map (V.map f)).map V.dat) ∧ Locs m' [("kind", .str (kindS cell) t₁), ("name", v₂), ("told", .ref D)]) ?_ ?_)
  · refine AssignComp_ (cl := [("rows", c'.L + 1), ("moved", c'.L + 2)]) rfl ?_ (by with_unfolding_all rfl) (by with_unfolding_all rfl) (by with_unfolding_all decide) (by with_unfolding_all rfl) (by with_unfolding_all decide) (by with_unfolding_all rfl) (by with_unfolding_all rfl) (by with_unfolding_all rfl)
    walk_at "w"
    refine ⟨rfl, uv.length, _, fun j ys M₂ Φ₂ => M₂ = M₁ ∧ (∀ p ∈ Φ₁, p ∈ Φ₂) ∧ DatAll Φ₂ ys (((cell.vals.take j).map (V.map f)).map V.dat), .list ⟨_, LO.lo, .inl (sub₁ _ hlv)⟩ (by omega), ⟨?_, ?_⟩, ?_⟩
    · exact ⟨rfl, fun p hp => hp, by rw [List.take_zero]; exact .nil⟩
    · rintro j v ys M₂ Φ₂ I oI C oC E m₂ hj hv' sub₂ ⟨rfl, sub₃, hys⟩ hC hx
      have hj2 : j < cell.vals.length := by omega
      have hvj : cell.vals[j]? = some cell.vals[j] := List.getElem?_eq_getElem hj2
      obtain ⟨v', hv₂, dv⟩ := datGet dav (i := j) (d := (cell.vals[j]).dat) (by rw [List.getElem?_map, hvj]; rfl)
      rw [hv'] at hv₂
      cases hv₂
      have dv := dv.mono (fun p hp => sub₃ p (sub₁ p hp))
      have htk : ((cell.vals.take (j + 1)).map (V.map f)).map V.dat = ((cell.vals.take j).map (V.map f)).map V.dat ++ [(V.map f cell.vals[j]).dat] := by rw [List.take_add_one, hvj, List.map_append, List.map_append]; rfl
      have hrf : ∀ b ∈ (cell.vals[j]).refs, b ∈ cell.named := fun b hb => by rw [named_eq]; exact List.mem_append_right _ (List.mem_flatMap.mpr ⟨_, List.mem_of_getElem? hvj, hb⟩)
      have k1' := sub₃ _ k1
      have k2' := sub₃ _ k2
      generalize cell.vals[j] = x at dv htk hrf
      cases x with
      | int i =>
        have dv' := dv
        obtain ⟨T, o, w₁, w₂, rfl, hm, ho, d₁, d₂⟩ := tup2 dv
        obtain ⟨t₁, rfl⟩ := dStr d₁
        walk_at "w"
        refine yT (mem_led hm) ho (by decide) (by decide) rfl ?_
        walk_at "w"
        exact ⟨rfl, _, rfl, rfl, sub₃, by rw [htk]; exact hys.append (.one dv')⟩
      | ch i =>
        have dv' := dv
        obtain ⟨T, o, w₁, w₂, rfl, hm, ho, d₁, d₂⟩ := tup2 dv
        obtain ⟨t₁, rfl⟩ := dStr d₁
        walk_at "w"
        refine yT (mem_led hm) ho (by decide) (by decide) rfl ?_
        walk_at "w"
        exact ⟨rfl, _, rfl, rfl, sub₃, by rw [htk]; exact hys.append (.one dv')⟩
      | «at» b =>
        obtain ⟨T, oT, w₁, w₂, rfl, hmT, hoT, d₁, d₂⟩ := tup2 dv
        obtain ⟨t₁, rfl⟩ := dStr d₁
        obtain ⟨t₂, rfl⟩ := dInt d₂
        have hbn := hrf b (.head _)
        obtain ⟨tb, hb⟩ := hf b hbn
        walk_at "w"
        refine yT (mem_led hmT) hoT (by decide) (by decide) rfl ?_
        walk_at "w"
        refine yT (mem_led hmT) hoT (by decide) (by decide) rfl ?_
        walk_at "w"
        refine law_end (by omega) (hr.sub fun p hp => sub₃ p (sub₁ p hp)) wf (named_lt wf hcell hbn) fun te => ?_
        walk_at "w"
        refine xD (mem_led (sub₃ _ (sub₁ _ hm))) ho hb ?_
        walk_at "w"
        refine newT (szl (by simp)) fun Z hZ => ?_
        exact ⟨rfl, _, rfl, rfl, fun p hp => .tail _ (sub₃ p hp), by rw [htk]; exact (hys.mono fun p hp => .tail _ hp).append (.one (.tuple (.head _) (.cons (.str _ _) (.cons (.int _ _) .nil))))⟩
    · rintro ys M₂ Φ₂ E sub₂ ⟨rfl, sub₃, hys⟩
      rw [hlu, List.take_length] at hys
      exact ⟨rfl, rfl, fun p hp => .tail _ (sub₃ p hp), E, ys, _, .head _, hys.mono (fun p hp => .tail _ hp), by walk_at "lk", by walk_at "lk", by walk_at "lk", trivial⟩
  rintro f' m₂ M₂ Φ₂ _ ⟨rfl, rfl, sub₂, D, ts, nt, hD, hts, hL₂⟩
  clear hL
  have k1' := sub₂ _ k1
  have k2' := sub₂ _ k2
  have sub₂ : ∀ p ∈ Φ, p ∈ Φ₂ := fun p hp => sub₂ p (sub₁ p hp)
  cases hrow with
  | @fn s vs =>
    obtain ⟨t₂, rfl⟩ : ∃ t₂, v₂ = .str s t₂ := by cases he; exact dStr d₂
    replace hL₂ : Locs m₂ [("kind", .str "function" t₁), ("name", .str s t₂), ("told", .ref D)] := hL₂
    walk_at "w"
    refine newT (szl (by simp)) fun Z hZ => ?_
    walk_at "w"
    refine inTS (mem_led (.head _)) TO.tp (.cons _ _ (.cons _ _ (.cons _ _ (.cons _ _ .nil)))) ?_
    walk_at "w"
    refine newT (szl (by simp)) fun R hR => ?_
    exact h _ _ (fun p hp => .tail _ (.tail _ (sub₂ p hp))) (.tuple (.head _) (.cons (.str _ _) (.cons (.str _ _) (.cons (.list (.tail _ (.tail _ hD)) (hts.mono fun p hp => .tail _ (.tail _ hp))) .nil))))
  | @th s vs =>
    obtain ⟨t₂, rfl⟩ : ∃ t₂, v₂ = .str s t₂ := by cases he; exact dStr d₂
    replace hL₂ : Locs m₂ [("kind", .str "thunk" t₁), ("name", .str s t₂), ("told", .ref D)] := hL₂
    walk_at "w"
    refine newT (szl (by simp)) fun Z hZ => ?_
    walk_at "w"
    refine inTS (mem_led (.head _)) TO.tp (.cons _ _ (.cons _ _ (.cons _ _ (.cons _ _ .nil)))) ?_
    walk_at "w"
    refine newT (szl (by simp)) fun R hR => ?_
    exact h _ _ (fun p hp => .tail _ (.tail _ (sub₂ p hp))) (.tuple (.head _) (.cons (.str _ _) (.cons (.str _ _) (.cons (.list (.tail _ (.tail _ hD)) (hts.mono fun p hp => .tail _ (.tail _ hp))) .nil))))
  | @da s vs =>
    obtain ⟨t₂, rfl⟩ : ∃ t₂, v₂ = .str s t₂ := by cases he; exact dStr d₂
    replace hL₂ : Locs m₂ [("kind", .str "data" t₁), ("name", .str s t₂), ("told", .ref D)] := hL₂
    walk_at "w"
    refine newT (szl (by simp)) fun Z hZ => ?_
    walk_at "w"
    refine inTS (mem_led (.head _)) TO.tp (.cons _ _ (.cons _ _ (.cons _ _ (.cons _ _ .nil)))) ?_
    walk_at "w"
    refine newT (szl (by simp)) fun R hR => ?_
    exact h _ _ (fun p hp => .tail _ (.tail _ (sub₂ p hp))) (.tuple (.head _) (.cons (.str _ _) (.cons (.str _ _) (.cons (.list (.tail _ (.tail _ hD)) (hts.mono fun p hp => .tail _ (.tail _ hp))) .nil))))
  | @pa x vs =>
    obtain ⟨t₂, rfl⟩ : ∃ t₂, v₂ = .int x t₂ := by cases he; exact dInt d₂
    replace hL₂ : Locs m₂ [("kind", .str "partial" t₁), ("name", .int x t₂), ("told", .ref D)] := hL₂
    walk_at "w"
    obtain ⟨tb, hb⟩ := hf x (.head _)
    refine law_end (by omega) (hr.sub sub₂) wf (named_lt wf hcell (.head _)) fun te => ?_
    walk_at "w"
    refine xD (mem_led (sub₂ _ hm)) ho hb ?_
    walk_at "w"
    refine newT (szl (by simp)) fun Z hZ => ?_
    walk_at "w"
    refine inTS (mem_led (.head _)) TO.tp (.cons _ _ (.cons _ _ (.cons _ _ (.cons _ _ .nil)))) ?_
    walk_at "w"
    refine newT (szl (by simp)) fun R hR => ?_
    exact h _ _ (fun p hp => .tail _ (.tail _ (sub₂ p hp))) (.tuple (.head _) (.cons (.str _ _) (.cons (.int _ _) (.cons (.list (.tail _ (.tail _ hD)) (hts.mono fun p hp => .tail _ (.tail _ hp))) .nil))))
  | @ho nm =>
    replace hL₂ : Locs m₂ [("kind", .str "hole" t₁), ("name", v₂), ("told", .ref D)] := hL₂
    walk_at "w"
    refine newT (szl (by simp)) fun Z hZ => ?_
    walk_at "w"
    refine inTS (mem_led (.head _)) TO.tp (.cons _ _ (.cons _ _ (.cons _ _ (.cons _ _ .nil)))) ?_
    walk_at "w"
    refine newT (szl (by simp)) fun R hR => ?_
    exact h _ _ (fun p hp => .tail _ (.tail _ (sub₂ p hp))) (.tuple (.head _) (.cons (.str _ _) (.cons .none (.cons (.list (.tail _ (.tail _ hD)) (hts.mono fun p hp => .tail _ (.tail _ hp))) .nil))))
  | @pl v nm =>
    replace hL₂ : Locs m₂ [("kind", .str "plain" t₁), ("name", v₂), ("told", .ref D)] := hL₂
    walk_at "w"
    refine newT (szl (by simp)) fun Z hZ => ?_
    walk_at "w"
    refine inTS (mem_led (.head _)) TO.tp (.cons _ _ (.cons _ _ (.cons _ _ (.cons _ _ .nil)))) ?_
    walk_at "w"
    refine newT (szl (by simp)) fun R hR => ?_
    exact h _ _ (fun p hp => .tail _ (.tail _ (sub₂ p hp))) (.tuple (.head _) (.cons (.str _ _) (.cons .none (.cons (.list (.tail _ (.tail _ hD)) (hts.mono fun p hp => .tail _ (.tail _ hp))) .nil))))
  | @li x => cases hli
end

end

section
-- part vals
local macro_rules | `(tactic| walk_at "nm") => `(tactic| ((with_reducible show EW _ (eval (Expr.Name _ _) (compEnvC _ _ _ _)) _ _ _ _); (with_reducible refine nCL (List.mem_append_left _ (List.Mem.tail _ (List.Mem.head _))) (by assumption) (by assumption) ?_)))
section
variable {c : Cx} {m : Loc} {M Φ : Led} {Q : Value → Loc → Led → Led → Prop}
theorem value_moved {u : Value} {v : V} {mv : Addr} {o : Obj} {kvs : List (Int × Value)} {f : Nat → Nat} (hn : 1 ≤ c.n) (hu : DatIn Φ u v.dat) (hm : (mv, o) ∈ Φ) (ho : DO c.w mv o kvs) (hf : MvIs kvs f v.refs)
    (h : ∀ u' Φ', (∀ p ∈ Φ, p ∈ Φ') → DatIn Φ' u' (v.map f).dat → Q u' m M Φ') : EW c (call (.ref 243) [u, .ref mv]) m M Φ Q := by
  refine call_def (f := 243) (binds := [("value", u), ("moved", .ref mv)]) (by k_is) (by k_is) (by omega) (by rfl) (locs rfl) rfl rfl rfl (by decide) fun c' hw hn' keep => ?_
  rw [← hw] at ho
  cases v with
  | int i =>
    have dv' := hu
    obtain ⟨T, oT, w₁, w₂, rfl, hmT, hoT, d₁, d₂⟩ := tup2 hu
    obtain ⟨t₁, rfl⟩ := dStr d₁
    walk_at "w"
    refine yT (mem_led hmT) hoT (by decide) (by decide) rfl ?_
    walk_at "w"
    exact h _ _ (fun p hp => hp) dv'
  | ch i =>
    have dv' := hu
    obtain ⟨T, oT, w₁, w₂, rfl, hmT, hoT, d₁, d₂⟩ := tup2 hu
    obtain ⟨t₁, rfl⟩ := dStr d₁
    walk_at "w"
    refine yT (mem_led hmT) hoT (by decide) (by decide) rfl ?_
    walk_at "w"
    exact h _ _ (fun p hp => hp) dv'
  | «at» b =>
    obtain ⟨T, oT, w₁, w₂, rfl, hmT, hoT, d₁, d₂⟩ := tup2 hu
    obtain ⟨t₁, rfl⟩ := dStr d₁
    obtain ⟨t₂, rfl⟩ := dInt d₂
    obtain ⟨tb, hb⟩ := hf b (.head _)
    walk_at "w"
    refine yT (mem_led hmT) hoT (by decide) (by decide) rfl ?_
    walk_at "w"
    refine yT (mem_led hmT) hoT (by decide) (by decide) rfl ?_
    walk_at "w"
    refine xD (mem_led hm) ho hb ?_
    walk_at "w"
    refine newT (szl (by simp)) fun Z hZ => ?_
    exact h _ _ (fun p hp => .tail _ hp) (.tuple (.head _) (.cons (.str _ _) (.cons (.int _ _) .nil)))

theorem values_roots {l : Addr} {us : List Value} {n : Nat} {vs : List V} (hn : 1 ≤ c.n) (hl : (l, lo us n) ∈ Φ) (hus : DatAll Φ us (vs.map V.dat)) (hz : vs.length ≤ 1000)
    (h : ∀ D rs k Φ', (∀ p ∈ Φ, p ∈ Φ') → (D, lo rs k) ∈ Φ' → IntL rs (vs.flatMap V.refs) → Q (.ref D) m M Φ') : EW c (call (.ref 316) [.ref l]) m M Φ Q := by
  refine call_def (f := 316) (binds := [("values", .ref l)]) (by k_is) (by k_is) (by omega) (by rfl) (locs rfl) rfl rfl rfl (by decide) fun c' hw hn' keep => ?_
  have hlu := hus.length
  rw [List.length_map] at hlu
  refine execs_cons ?_
  walk_at "st"
  refine CompT_ (cl := []) ?_ (by with_unfolding_all rfl) (by with_unfolding_all decide) (by with_unfolding_all rfl) (by with_unfolding_all decide) (by with_unfolding_all rfl)
  walk_at "w"
  refine ⟨rfl, us.length, _, fun j ys M₂ Φ₂ => M₂ = M ∧ (∀ p ∈ Φ, p ∈ Φ₂) ∧ IntL ys ((vs.take j).flatMap V.refs), .list ⟨_, LO.lo, .inl hl⟩ (by omega), ⟨?_, ?_⟩, ?_⟩
  · exact ⟨rfl, fun p hp => hp, by rw [List.take_zero]; exact IntL.nil⟩
  · rintro j v ys M₂ Φ₂ I oI C oC E m₂ hj hv' sub₂ ⟨rfl, sub₃, hys⟩ hC hx
    have hj2 : j < vs.length := by omega
    have hvj : vs[j]? = some vs[j] := List.getElem?_eq_getElem hj2
    have htk := take_flat hvj
    obtain ⟨v', hv₂, dv⟩ := datGet hus (i := j) (d := (vs[j]).dat) (by rw [List.getElem?_map, hvj]; rfl)
    rw [hv'] at hv₂
    cases hv₂
    have dv := dv.mono (fun p hp => sub₃ p hp)
    generalize vs[j] = x at dv htk
    cases x with
    | int i =>
      obtain ⟨T, o, w₁, w₂, rfl, hm, ho, d₁, d₂⟩ := tup2 dv
      obtain ⟨t₁, rfl⟩ := dStr d₁
      walk_at "w"
      refine yT (mem_led hm) ho (by decide) (by decide) rfl ?_
      walk_at "w"
      exact ⟨rfl, _, rfl, rfl, sub₃, by rw [htk]; simpa [V.refs] using hys⟩
    | ch i =>
      obtain ⟨T, o, w₁, w₂, rfl, hm, ho, d₁, d₂⟩ := tup2 dv
      obtain ⟨t₁, rfl⟩ := dStr d₁
      walk_at "w"
      refine yT (mem_led hm) ho (by decide) (by decide) rfl ?_
      walk_at "w"
      exact ⟨rfl, _, rfl, rfl, sub₃, by rw [htk]; simpa [V.refs] using hys⟩
    | «at» b =>
      obtain ⟨T, o, w₁, w₂, rfl, hm, ho, d₁, d₂⟩ := tup2 dv
      obtain ⟨t₁, rfl⟩ := dStr d₁
      obtain ⟨t₂, rfl⟩ := dInt d₂
      walk_at "w"
      refine yT (mem_led hm) ho (by decide) (by decide) rfl ?_
      walk_at "w"
      refine yT (mem_led hm) ho (by decide) (by decide) rfl ?_
      exact ⟨rfl, _, rfl, rfl, sub₃, by rw [htk]; exact hys.snoc b t₂⟩
  · rintro ys M₂ Φ₂ E sub₂ ⟨rfl, sub₃, hys⟩
    rw [hlu, List.take_length] at hys
    exact h E ys _ _ (fun p hp => .tail _ (sub₃ p hp)) (.head _) hys
end

end

section
-- part LzCol
structure Col where
  X : Addr
  F : Addr
  H : Addr
  wt : Addr
  mv : Addr
  fc : Addr
  fi : Addr
structure Col.Fix (k : Col) (Φ : Led) : Prop where
  ins : Ins Φ k.X 300 [("heap", .ref k.H), ("fresh", .ref k.F), ("moved", .ref k.mv), ("waiting", .ref k.wt)]
  fr : (k.F, instObj 232 k.fi) ∈ Φ
theorem Col.Fix.sub {k : Col} {Φ Φ' : Led} (h : k.Fix Φ) (sub : ∀ p ∈ Φ, p ∈ Φ') : k.Fix Φ' := ⟨h.ins.sub sub, sub _ h.fr⟩
structure MovedIs (rows : List Cell) (S : St) (kvs : List (Int × Value)) : Prop where
  keys : kvs.map (·.1) = S.D.map fun n => ((n : Nat) : Int)
  val : ∀ a ∈ S.D, ∃ t, valueAt kvs (a : Nat) = some (.int (mvOf rows S a : Nat) t)
structure FreshIs (Φ : Led) (C : List Cell) (kvs : List (Int × Value)) : Prop where
  keys : kvs.map (·.1) = (List.range C.length).map fun n => ((n : Nat) : Int)
  val : ∀ (i : Nat) (c : Cell), C[i]? = some c → ∃ v, valueAt kvs (i : Nat) = some v ∧ CellV Φ v c
theorem FreshIs.sub {Φ Φ' : Led} {C : List Cell} {kvs : List (Int × Value)} (h : FreshIs Φ C kvs) (sub : ∀ p ∈ Φ, p ∈ Φ') : FreshIs Φ' C kvs :=
  ⟨h.keys, fun i c e => let ⟨v, a, b⟩ := h.val i c e; ⟨v, a, b.sub sub⟩⟩
theorem FreshIs.len {Φ : Led} {C : List Cell} {kvs : List (Int × Value)} (h : FreshIs Φ C kvs) : kvs.length = C.length := by
  have := congrArg List.length h.keys
  simpa using this
theorem MovedIs.len {rows : List Cell} {S : St} {kvs : List (Int × Value)} (h : MovedIs rows S kvs) : kvs.length = S.D.length := by
  have := congrArg List.length h.keys
  simpa using this
theorem natKey {l : List Nat} {a : Nat} : ((a : Nat) : Int) ∈ l.map (fun n => ((n : Nat) : Int)) ↔ a ∈ l := by
  constructor
  · intro h
    obtain ⟨b, hb, e⟩ := List.mem_map.mp h
    have : b = a := by omega
    exact this ▸ hb
  · intro h; exact List.mem_map.mpr ⟨a, h, rfl⟩
theorem MovedIs.has {rows : List Cell} {S : St} {kvs : List (Int × Value)} (h : MovedIs rows S kvs) (a : Nat) : (valueAt kvs (a : Nat)).isSome = decide (a ∈ S.D) := by
  have := isSome_iff (kvs := kvs) (k := (a : Nat))
  rw [h.keys, natKey] at this
  by_cases e : a ∈ S.D
  · rw [decide_eq_true e]; exact this.mpr e
  · rw [decide_eq_false e]; exact Bool.eq_false_iff.mpr fun x => e (this.mp x)
theorem MovedIs.store {rows : List Cell} {S : St} {kvs : List (Int × Value)} (h : MovedIs rows S kvs) (p : Nat) (t : Tok) : MovedIs rows ⟨S.W, addD S.D p, S.C⟩ (stored kvs (p : Nat) (.int (mvOf rows S p : Nat) t)) := by
  refine ⟨?_, fun a ha => ?_⟩
  · rw [keys_stored, h.keys]
    show _ = (addD S.D p).map _
    unfold addD
    by_cases e : p ∈ S.D
    · rw [if_pos (natKey.mpr e), if_pos e]
    · rw [if_neg (fun x => e (natKey.mp x)), if_neg e, List.map_append]; rfl
  · by_cases e : a = p
    · subst e; exact ⟨t, valueAt_stored_self⟩
    · rw [valueAt_stored_ne (by omega)]
      rcases mem_addD.mp ha with ha | ha
      · exact h.val a ha
      · exact absurd ha e
theorem MovedIs.grow {rows : List Cell} {roots : List Nat} {S : St} {kvs : List (Int × Value)} (h : MovedIs rows S kvs) (I : Inv rows roots S) (e : Nat) (C : List Cell) : MovedIs rows ⟨S.W ++ [e], S.D, C⟩ kvs := by
  refine ⟨h.keys, fun a ha => ?_⟩
  obtain ⟨t, ht⟩ := h.val a ha
  refine ⟨t, ?_⟩
  rw [ht]
  have : mvOf rows ⟨S.W ++ [e], S.D, C⟩ a = mvOf rows S a := by
    show (S.W ++ [e]).idxOf _ = S.W.idxOf _
    rw [List.idxOf_append, if_pos (I.de a ha)]
  rw [this]
theorem range_snoc (n : Nat) : (List.range (n + 1)).map (fun n => ((n : Nat) : Int)) = (List.range n).map (fun n => ((n : Nat) : Int)) ++ [(n : Int)] := by
  rw [List.range_succ, List.map_append]; rfl
theorem FreshIs.new {Φ : Led} {C : List Cell} {kvs : List (Int × Value)} (h : FreshIs Φ C kvs) {v : Value} {c : Cell} (hc : CellV Φ v c) : FreshIs Φ (C ++ [c]) (stored kvs (C.length : Nat) v) := by
  refine ⟨?_, fun i x e => ?_⟩
  · rw [keys_stored, h.keys, if_neg (fun x => by have := natKey.mp x; simp at this), List.length_append]
    exact (range_snoc _).symm
  · rcases Nat.lt_or_ge i C.length with hi | hi
    · rw [List.getElem?_append_left hi] at e
      rw [valueAt_stored_ne (by omega)]
      exact h.val i x e
    · have hl := lt_of_get e
      rw [List.length_append, List.length_singleton] at hl
      have : i = C.length := by omega
      subst this
      rw [List.getElem?_append_right (Nat.le_refl _), Nat.sub_self] at e
      cases e
      exact ⟨v, valueAt_stored_self, hc⟩
theorem FreshIs.set {Φ : Led} {C : List Cell} {kvs : List (Int × Value)} (h : FreshIs Φ C kvs) {v : Value} {c : Cell} {i : Nat} (hi : i < C.length) (hc : CellV Φ v c) : FreshIs Φ (C.set i c) (stored kvs (i : Nat) v) := by
  refine ⟨?_, fun j x e => ?_⟩
  · rw [keys_stored, h.keys, if_pos (natKey.mpr (List.mem_range.mpr hi)), List.length_set]
  · by_cases ej : j = i
    · subst ej
      rw [List.getElem?_set_self hi] at e
      cases e
      exact ⟨v, valueAt_stored_self, hc⟩
    · rw [List.getElem?_set_ne (Ne.symm ej)] at e
      rw [valueAt_stored_ne (by omega)]
      exact h.val j x e

structure ColM (w : World) (k : Col) (rows : List Cell) (S : St) (Φ M : Led) : Prop where
  ex : ∃ vs n om oc kvm kvc es ne t, M = [(k.wt, lo vs n), (k.mv, om), (k.fc, oc), (k.fi, dictOf es ne)] ∧ IntL vs S.W ∧ DO w k.mv om kvm ∧ MovedIs rows S kvm ∧ DO w k.fc oc kvc ∧ FreshIs Φ S.C kvc ∧ Flds es [("cells", .ref k.fc), ("next", .int (S.W.length : Nat) t)]
theorem ColM.sub {w : World} {k : Col} {rows : List Cell} {S : St} {Φ Φ' M : Led} (h : ColM w k rows S Φ M) (sub : ∀ p ∈ Φ, p ∈ Φ') : ColM w k rows S Φ' M := by
  obtain ⟨vs, n, om, oc, kvm, kvc, es, ne, t, h1, h2, h3, h4, h5, h6, h7⟩ := h.ex
  exact ⟨vs, n, om, oc, kvm, kvc, es, ne, t, h1, h2, h3, h4, h5, h6.sub sub, h7⟩

/-- links_from's walk -/
structure PInv (rows : List Cell) (roots : List Nat) (a : Nat) (ps : List Nat) (x : Nat) : Prop where
  here : a ∈ ps ∨ a = x
  fin : endOf rows x = endOf rows a
  rx : Reach rows roots x
  lt : ∀ p ∈ ps, x < p ∧ p < rows.length ∧ endOf rows p = endOf rows a ∧ Reach rows roots p
  nxt : ∀ p ∈ ps, ∃ b, rows[p]? = some (.li b) ∧ (b ∈ ps ∨ b = x)
theorem PInv.start {rows : List Cell} {roots : List Nat} {a : Nat} (h : Reach rows roots a) : PInv rows roots a [] a := ⟨.inr rfl, rfl, h, fun _ h => (nomatch h), fun _ h => (nomatch h)⟩
theorem PInv.step {rows : List Cell} {roots : List Nat} {a x b : Nat} {ps : List Nat} (wf : WF rows) (I : PInv rows roots a ps x) (h : rows[x]? = some (.li b)) : PInv rows roots a (ps ++ [x]) b := by
  have hl := wf.li h
  have he := endOf_li wf h
  refine ⟨?_, by rw [← he]; exact I.fin, .step I.rx h (.head _), fun p hp => ?_, fun p hp => ?_⟩
  · rcases I.here with h | h
    · exact .inl (List.mem_append_left _ h)
    · exact .inl (List.mem_append_right _ (h ▸ .head _))
  · rcases List.mem_append.mp hp with hp | hp
    · have := I.lt p hp
      exact ⟨by omega, this.2⟩
    · rw [List.mem_singleton.mp hp]
      exact ⟨hl, lt_of_get h, I.fin, I.rx⟩
  · rcases List.mem_append.mp hp with hp | hp
    · obtain ⟨b', h1, h2⟩ := I.nxt p hp
      refine ⟨b', h1, .inl ?_⟩
      rcases h2 with h2 | h2
      · exact List.mem_append_left _ h2
      · exact List.mem_append_right _ (h2 ▸ .head _)
    · rw [List.mem_singleton.mp hp]
      exact ⟨b, h, .inr rfl⟩
theorem PInv.done {rows : List Cell} {roots : List Nat} {a x : Nat} {ps : List Nat} {c : Cell} (I : PInv rows roots a ps x) (h : rows[x]? = some c) (hc : c.isLi = false) : x = endOf rows a ∧ Passed rows roots a ps := by
  have e : x = endOf rows a := by rw [← I.fin, endOf_stop h hc]
  refine ⟨e, ⟨?_, fun p hp => (I.lt p hp).2.1, fun p hp => (I.lt p hp).2.2.1, fun p hp => (I.lt p hp).2.2.2, fun p hp => ?_⟩⟩
  · rw [← e]; exact I.here
  · rw [← e]; exact I.nxt p hp

section
variable {c : Cx} {m : Loc} {M Φ : Led}
theorem gMJ {x C f : Addr} {fs : List (PySem.Str × Value)} {name : PySem.Str} {pl : Sem Bool} {Q : Value × List Value → Loc → Led → Led → Prop} (h0 : Ins Φ x C fs)
    (hg : plainGet (hd.heap_39 c.w.params) C name = true) (hf : findIn (hd.heap_39 c.w.params) (.ref C) name = some (some (.ref f))) (hfn : isFn (hd.heap_39 c.w.params) (.ref f) = true)
    (hv : getF name fs = none) (h : Q (.ref f, [.ref x]) m M Φ) : EW c (getMethod (.ref x) name pl) m M Φ Q := by
  obtain ⟨dx, es, n, h1, h2, F⟩ := h0
  exact gM (mem_led h1) (mem_led h2) F hg hf hfn hv h
theorem old_meth {H f : Addr} {rows : List Cell} {name : PySem.Str} {pl : Sem Bool} {Q : Value × List Value → Loc → Led → Led → Prop} (O : OldIs c.w Φ H rows)
    (hg : plainGet (hd.heap_39 c.w.params) 232 name = true) (hf : findIn (hd.heap_39 c.w.params) (.ref 232) name = some (some (.ref f))) (hfn : isFn (hd.heap_39 c.w.params) (.ref f) = true)
    (h : Q (.ref f, [.ref H]) m M Φ) (hv : ("cells" : PySem.Str) ≠ name ∧ ("next" : PySem.Str) ≠ name := by with_unfolding_all decide) : EW c (getMethod (.ref H) name pl) m M Φ Q := by
  obtain ⟨dx, es, n, cd, o, kvs, k', t, h1, h2, F, h3, D, h4⟩ := O.ex
  refine gM (mem_led h1) (mem_led h2) F hg hf hfn ?_ h
  unfold getF; rw [if_neg hv.1]; unfold getF; rw [if_neg hv.2]; rfl
end

end

section
-- part col1
section
variable {c : Cx} {m : Loc} {M Φ : Led} {Q : Value → Loc → Led → Led → Prop} {k : Col} {rows : List Cell} {roots : List Nat}
theorem isLink {v : Value} {cell : Cell} {Q : Value → Loc → Led → Led → Prop} (hc : CellV Φ v cell) (h : Q (.bool cell.isLi) m M Φ) : EW c (call (.builtin "isinstance") [v, .ref 141]) m M Φ Q := by
  cases hc with
  | fn hx _ => exact isJ hx (isi_fn _) (kit_fn_li _) h
  | th hx _ => exact isJ hx (isi_th _) (kit_th_li _) h
  | pa hx _ => exact isJ hx (isi_pa _) (kit_pa_li _) h
  | da hx _ => exact isJ hx (isi_da _) (kit_da_li _) h
  | ho hx => exact isJ hx (isi_ho _) (kit_ho_li _) h
  | pl hx _ => exact isJ hx (isi_pl _) (kit_pl_li _) h
  | li hx => exact isJ hx (isi_li _) (kit_li_li _) h

theorem links_from {a : Nat} {t : Tok} (hn : 2 ≤ c.n) (hk : k.Fix Φ) (hO : OldIs c.w Φ k.H rows) (wf : WF rows) (hr : Reach rows roots a) (hlt : a < rows.length)
    (h : ∀ T P ps us n t Φ', (∀ p ∈ Φ, p ∈ Φ') → (T, tp [.ref P, .int (endOf rows a : Nat) t] 0) ∈ Φ' → (P, lo us n) ∈ Φ' → IntL us ps → Passed rows roots a ps → Q (.ref T) m M Φ') :
    EW c (call (.ref 264) [.ref k.X, .int a t]) m M Φ Q := by
  refine call_def (f := 264) (binds := [("self", .ref k.X), ("address", .int a t)]) (by k_is) (by k_is) (by omega) (by rfl) (locs rfl) rfl rfl rfl (by decide) fun c' hw hn' keep => ?_
  rw [← hw] at hO
  have hmany := wf.many
  refine execs_cons (EW.mono (Q := fun f m' M' Φ' => f = .next ∧ Φ' = Φ ∧ ∃ P, M' = (P, lo [] 0) :: M ∧ Locs m' [("self", .ref k.X), ("address", .int a t), ("passed", .ref P)]) ?_ ?_)
  · walk_at "w"
    refine newLM (szl (by simp)) fun P hP => ?_
    walk_at "w"
    exact ⟨rfl, rfl, P, rfl, by walk_at "lk", by walk_at "lk", by walk_at "lk", trivial⟩
  rintro f m₁ M₁ Φ₁ _ ⟨rfl, rfl, P, rfl, hL⟩
  have hca : rows[a]? = some rows[a] := List.getElem?_eq_getElem hlt
  refine execs_cons (EW.mono (Q := fun f m' M' Φ' => f = .next ∧ M' = (P, lo [] 0) :: M ∧ Φ' = Φ₁ ∧ ∃ v, CellV Φ₁ v rows[a] ∧ Locs m' [("self", .ref k.X), ("address", .int a t), ("passed", .ref P), ("cell", v)]) ?_ ?_)
  · walk_at "w"
    refine gJ hk.ins (at_300_heap _) rfl rfl ?_
    refine old_meth hO (by k_is) (by k_is) (by k_is) ?_
    walk_at "w"
    refine old_get (by omega) hO hca fun v hv => ?_
    walk_at "w"
    exact ⟨rfl, rfl, rfl, v, hv, by walk_at "lk", by walk_at "lk", by walk_at "lk", by walk_at "lk", trivial⟩
  rintro f m₂ M₂ Φ₂ _ ⟨rfl, rfl, rfl, v, hv, hL₂⟩
  clear hL
  refine execs_cons (EW.mono (Q := fun f m' M' Φ' => f = .next ∧ Φ' = Φ₂ ∧ ∃ ps us n t, M' = (P, lo us n) :: M ∧ IntL us ps ∧ Passed rows roots a ps ∧ Locs m' [("passed", .ref P), ("address", .int (endOf rows a : Nat) t)])
    (While_ (fun j m' M' Φ' => Φ' = Φ₂ ∧ ∃ ps us n t v cell, M' = (P, lo us n) :: M ∧ IntL us ps ∧ rows[j]? = some cell ∧ CellV Φ₂ v cell ∧ PInv rows roots a ps j ∧ ps.length + j ≤ 9 ∧ Locs m' [("self", .ref k.X), ("address", .int j t), ("passed", .ref P), ("cell", v)]) a ?_ ?_) ?_)
  · exact ⟨rfl, [], [], 0, t, v, _, rfl, IntL.nil, hca, hv, PInv.start hr, by simp; omega, hL₂.1, hL₂.2.1, hL₂.2.2.1, hL₂.2.2.2.1, trivial⟩
  · rintro j m' M' Φ' _ ⟨rfl, ps, us, n, tj, v, cell, rfl, hus, hcj, hcv, I, hlen, hL⟩
    clear hL₂
    have hul := hus.length
    walk_at "w"
    refine isLink hcv ?_
    walk_at "w"
    cases hcv with
    | @li x tb b hx =>
      refine ite_T rfl ?_
      walk_at "w"
      refine dIn (x := P) (n₁ := []) (n₂ := []) (by exact .head _) LO.lo (hus.dat _) (fun p hp => nomatch hp) (.int _ _) (fun p hp => nomatch hp) (by intro d hd; obtain ⟨x, _, rfl⟩ := List.mem_map.mp hd; rfl) rfl fun q hq => ?_
      rw [int_mem] at hq
      obtain rfl : q = false := by
        cases q with
        | false => rfl
        | true => have := (I.lt j (hq.mp rfl)).1; omega
      walk_at "w"
      refine appM (mem_of_get (i := 0) rfl) ?_
      walk_at "w"
      refine appL (i := 0) rfl (by omega) ?_
      walk_at "w"
      refine gJ hx (at_li_address _) rfl rfl ?_
      walk_at "w"
      refine gJ hk.ins (at_300_heap _) rfl rfl ?_
      refine old_meth hO (by k_is) (by k_is) (by k_is) ?_
      walk_at "w"
      have hlj := wf.li hcj
      have hlj2 := lt_of_get hcj
      have hcb : rows[b]? = some rows[b] := List.getElem?_eq_getElem (by omega)
      refine old_get (by omega) hO hcb fun v' hv' => ?_
      walk_at "w"
      exact ⟨b, hlj, rfl, ps ++ [j], us ++ [.int j tj], n + 1, tb, v', _, rfl, hus.snoc j tj, hcb, hv', I.step wf hcj, by simp; omega, by walk_at "lk", by walk_at "lk", by walk_at "lk", by walk_at "lk", trivial⟩
    | _ =>
      refine ite_F (by simp [Cell.isLi]) ?_
      walk_at "w"
      obtain ⟨e, hp⟩ := I.done hcj rfl
      exact ⟨rfl, rfl, ps, us, n, tj, rfl, hus, hp, by walk_at "lk", by rw [← e]; walk_at "lk", trivial⟩
  rintro f m₃ M₃ Φ₃ _ ⟨rfl, rfl, ps, us, n, te, rfl, hus, hp, hL⟩
  refine EW.frozen ?_
  walk_at "w"
  refine newT (szl (by simp)) fun T hT => ?_
  exact h T P ps us n te _ (fun p hp => .tail _ (.tail _ hp)) (.head _) (.tail _ (.head _)) hus hp
end

end

section
-- part col2
section
variable {c : Cx} {m : Loc} {M Φ : Led} {Q : Value → Loc → Led → Led → Prop} {k : Col} {rows : List Cell} {roots : List Nat}
theorem mv_new {S : St} {e : Nat} {C : List Cell} (he : e ∉ S.W) (hs : endOf rows e = e) : mvOf rows ⟨S.W ++ [e], S.D, C⟩ e = S.W.length := by
  show (S.W ++ [e]).idxOf (endOf rows e) = _
  rw [hs, List.idxOf_append, if_neg he, List.idxOf_cons_self, Nat.zero_add]
theorem move_spec {S : St} {M4 R : Led} {a : Nat} {t : Tok} (hn : 3 ≤ c.n) (hk : k.Fix Φ) (hO : OldIs c.w Φ k.H rows) (wf : WF rows) (hroots : ∀ a ∈ roots, a < rows.length) (I : Inv rows roots S) (hM : ColM c.w k rows S Φ M4) (hr : Reach rows roots a)
    (h : ∀ S' M4' Φ' t, (∀ p ∈ Φ, p ∈ Φ') → Inv rows roots S' → Ext rows S S' → a ∈ S'.D → ColM c.w k rows S' Φ' M4' → Q (.int (mvOf rows S' a : Nat) t) m (M4' ++ R) Φ') :
    EW c (call (.ref 271) [.ref k.X, .int a t]) m (M4 ++ R) Φ Q := by
  refine call_def (f := 271) (binds := [("self", .ref k.X), ("address", .int a t)]) (by k_is) (by k_is) (by omega) (by rfl) (locs rfl) rfl rfl rfl (by decide) fun c' hw hn' keep => ?_
  rw [← hw] at hO hM
  simp only [← hw] at h
  obtain ⟨vs, n, om, oc, kvm, kvc, es, ne, tn, e4, hvs, dm, hm, dc, hc, hF⟩ := hM.ex
  have hmany := wf.many
  have hlt := hr.lt wf hroots
  have hmD := I.dmany
  have hmW := I.wmany
  have hml := hm.len
  have hcl := hc.len
  have hvl := hvs.length
  have hCl := I.cl
  subst e4
  refine execs_cons ?_
  refine EW.mono (Q := fun f m' M' Φ' => M' = [(k.wt, lo vs n), (k.mv, om), (k.fc, oc), (k.fi, dictOf es ne)] ++ R ∧ Φ' = Φ ∧ (f = .next ∧ a ∉ S.D ∧ Locs m' [("self", .ref k.X), ("address", .int a t)] ∨ ∃ t, f = .ret (.int (mvOf rows S a : Nat) t) ∧ a ∈ S.D)) ?_ ?_
  · walk_at "w"
    refine gJ hk.ins (at_300_moved _) rfl rfl ?_
    refine inD (mem_of_get (i := 1) rfl) dm ?_
    rw [hm.has]
    walk_at "w"
    by_cases ha : a ∈ S.D
    · refine ite_T (decide_eq_true ha) ?_
      obtain ⟨ta, hva⟩ := hm.val a ha
      walk_at "w"
      refine gJ hk.ins (at_300_moved _) rfl rfl ?_
      walk_at "w"
      refine xD (mem_of_get (i := 1) rfl) dm hva ?_
      exact ⟨rfl, rfl, .inr ⟨ta, rfl, ha⟩⟩
    · refine ite_F (by simpa using ha) ?_
      walk_at "w"
      exact ⟨rfl, rfl, .inl ⟨rfl, ha, by walk_at "lk", by walk_at "lk", trivial⟩⟩
  rintro f m₁ M₁ Φ₁ _ ⟨rfl, rfl, (⟨rfl, ha, hL⟩ | ⟨ta, rfl, ha⟩)⟩
  · obtain ⟨hel, ce, hce, hcl'⟩ := endOf_spec wf a hlt
    have hes := endOf_stop hce hcl'
    generalize hE : endOf rows a = e at hel hce hes
    -- links_from
    refine execs_cons (EW.mono (Q := fun f m' M' Φ' => f = .next ∧ M' = [(k.wt, lo vs n), (k.mv, om), (k.fc, oc), (k.fi, dictOf es ne)] ++ R ∧ (∀ p ∈ Φ₁, p ∈ Φ') ∧ ∃ P ps us np te, (P, lo us np) ∈ Φ' ∧ IntL us ps ∧ Passed rows roots a ps ∧ Locs m' [("self", .ref k.X), ("passed", .ref P), ("end", .int e te)]) ?_ ?_)
    · walk_at "w"
      refine gMJ hk.ins (by k_is) (by k_is) (by k_is) rfl ?_
      walk_at "w"
      refine links_from (by omega) hk hO wf hr hlt fun T P ps us np te Φ' sub hT hP hus hp => ?_
      rw [hE] at hT
      refine ⟨T, _, _, _, rfl, mem_led hT, TO.tp, ?_⟩
      walk_at "w"
      exact ⟨rfl, rfl, sub, P, ps, us, np, te, hP, hus, hp, by walk_at "lk", by walk_at "lk", by walk_at "lk", trivial⟩
    rintro f m₂ M₂ Φ₂ _ ⟨rfl, rfl, sub₂, P, ps, us, np, te, hP, hus, hp, hL₂⟩
    clear hL
    have hk₂ := hk.sub sub₂
    have hO₂ := hO.sub sub₂
    have hM₂ := hM.sub sub₂
    have hce' : rows.getD e .ho = ce := by simp [List.getD, hce]
    have hre : Reach rows roots e := by
      rcases hp.here with hx | hx
      · have : ∀ j a, Reach rows roots a → a < j → Reach rows roots (endOf rows a) := by
          intro j
          induction j with
          | zero => intro a _ h; omega
          | succ j ih =>
            intro a h1 h2
            by_cases hb : ∃ b, rows[a]? = some (.li b)
            · obtain ⟨b, hb⟩ := hb
              rw [endOf_li wf hb]
              have := wf.li hb
              exact ih b (.step h1 hb (.head _)) (by omega)
            · have hl := h1.lt wf hroots
              have hg : rows[a]? = some rows[a] := List.getElem?_eq_getElem hl
              have hc : rows[a].isLi = false := by
                cases e : rows[a] <;> first | rfl | exact absurd ⟨_, by rw [hg, e]⟩ hb
              rw [endOf_stop hg hc]
              exact h1
        rw [← hE]
        exact this (a + 1) a hr (Nat.lt_succ_self _)
      · rw [hE] at hx
        exact hx ▸ hr
    obtain ⟨I₁, E₁, hD₁⟩ := withEnd_inv I hce hcl' hre
    -- the end's new address
    refine execs_cons (EW.mono (Q := fun f m' M' Φ' => f = .next ∧ Φ' = Φ₂ ∧ ∃ M4', M' = M4' ++ R ∧ ColM c'.w k rows (withEnd rows S e) Φ₂ M4' ∧ Locs m' [("self", .ref k.X), ("passed", .ref P), ("end", .int e te)]) ?_ ?_)
    · walk_at "w"
      refine gJ hk₂.ins (at_300_moved _) rfl rfl ?_
      refine notInD (mem_of_get (i := 1) rfl) dm ?_
      rw [hm.has]
      walk_at "w"
      by_cases he : e ∈ S.D
      · refine ite_F (by simpa using he) ?_
        walk_at "w"
        refine ⟨rfl, rfl, _, rfl, ?_, hL₂⟩
        unfold withEnd
        rw [if_pos he]
        exact hM₂
      · refine ite_T (by simpa using he) ?_
        have hew : e ∉ S.W := fun x => he (I.wd e x)
        walk_at "w"
        refine gJ hk₂.ins (at_300_heap _) rfl rfl ?_
        refine old_meth hO₂ (by k_is) (by k_is) (by k_is) ?_
        walk_at "w"
        refine old_get (by omega) hO₂ hce fun v hv => ?_
        walk_at "w"
        refine gJ hk₂.ins (at_300_fresh _) rfl rfl ?_
        refine gM (mem_led hk₂.fr) (mem_of_get (i := 3) rfl) hF (by k_is) (by k_is) (by k_is) rfl ?_
        walk_at "w"
        refine heap_new (i := 3) (j := 2) (by omega) hk₂.fr rfl hF rfl (by decide) dc (by omega) fun es' ne' oc' tn' hF' dc' => ?_
        walk_at "w"
        refine gJ hk₂.ins (at_300_moved _) rfl rfl ?_
        walk_at "w"
        refine setD (i := 1) rfl dm (by omega) fun om' dm' => ?_
        walk_at "w"
        refine gJ hk₂.ins (at_300_waiting _) rfl rfl ?_
        refine appM (mem_of_get (i := 0) rfl) ?_
        walk_at "w"
        refine appL (i := 0) rfl (by omega) ?_
        walk_at "w"
        refine ⟨rfl, rfl, [(k.wt, _), (k.mv, _), (k.fc, _), (k.fi, _)], rfl, ?_, by walk_at "lk", by walk_at "lk", by walk_at "lk", trivial⟩
        unfold withEnd
        rw [if_neg he, hce']
        refine ⟨⟨_, _, _, _, _, _, _, _, tn', rfl, hvs.snoc e te, dm', ?_, dc', ?_, ?_⟩⟩
        · have hg := fun t => (hm.grow I e (S.C ++ [ce])).store e t
          simp only [mv_new hew hes] at hg
          have ea : addD S.D e = S.D ++ [e] := if_neg he
          rw [← ea]
          exact hg _
        · have hg := (hc.sub sub₂).new hv
          rw [hCl] at hg
          exact hg
        · have el : ((S.W ++ [e]).length : Int) = (S.W.length : Int) + 1 := by simp
          rw [el]
          exact hF'
    rintro f m₃ M₃ Φ₃ _ ⟨rfl, rfl, M4', rfl, hM₃, hL₃⟩
    clear hL₂
    have hmvp : ∀ p ∈ ps, mvOf rows (withEnd rows S e) p = mvOf rows (withEnd rows S e) e := fun p hpm => by
      unfold mvOf
      rw [hp.fin p hpm, hE, hes]
    obtain ⟨I₂, E₂, ha₂⟩ := passed_inv I₁ hp (by rw [hE]; exact hD₁) (by rw [hE]; exact hes)
    have hDn : ∀ j, ((ps.take j).foldl addD (withEnd rows S e).D).Nodup ∧ ∀ x ∈ (ps.take j).foldl addD (withEnd rows S e).D, x < rows.length := fun j => by
      refine ⟨fold_nodup I₁.dn, fun x hx => ?_⟩
      rcases mem_fold.mp hx with hx | hx
      · exact I₁.dlt x hx
      · exact hp.lt x (List.mem_of_mem_take hx)
    have hul := hus.length
    refine execs_cons (EW.mono (Q := fun f m' M' Φ' => f = .next ∧ (∀ p ∈ Φ₃, p ∈ Φ') ∧ ∃ M4', M' = M4' ++ R ∧ ColM c'.w k rows ⟨(withEnd rows S e).W, ps.foldl addD (withEnd rows S e).D, (withEnd rows S e).C⟩ Φ' M4' ∧ Locs m' [("self", .ref k.X), ("end", .int e te)]) ?_ ?_)
    · refine For_list ?_
      walk_at "w"
      refine ⟨P, us, fun j m' M' Φ' => (∀ p ∈ Φ₃, p ∈ Φ') ∧ ∃ M4', M' = M4' ++ R ∧ ColM c'.w k rows ⟨(withEnd rows S e).W, (ps.take j).foldl addD (withEnd rows S e).D, (withEnd rows S e).C⟩ Φ' M4' ∧ Locs m' [("self", .ref k.X), ("end", .int e te)], rfl, ⟨_, LO.lo, .inl hP⟩, ⟨?_, ?_, ?_⟩⟩
      · exact ⟨fun p hp => hp, M4', rfl, hM₃, by walk_at "lk", by walk_at "lk", trivial⟩
      · rintro j v m' M' Φ' R' hj hv _ ⟨sub₃, M5, rfl, hM₅, hL⟩
        clear hL₃
        obtain ⟨x, tx, hx, rfl⟩ := hus.get' hv
        have hxm := List.mem_of_getElem? hx
        obtain ⟨hn5, hlt5⟩ := hDn j
        have hmD5 := nodup_le hn5 hlt5
        obtain ⟨vs5, n5, om5, oc5, kvm5, kvc5, es5, ne5, t5, rfl, hvs5, dm5, hm5, dc5, hc5, hF5⟩ := hM₅.ex
        have hml5 : kvm5.length = _ := hm5.len
        have hml5 : kvm5.length = ((ps.take j).foldl addD (withEnd rows S e).D).length := hml5
        have hk5 := hk₂.sub sub₃
        obtain ⟨t6, hv6⟩ := hm5.val e (mem_fold.mpr (.inl hD₁))
        walk_at "w"
        refine gJ hk5.ins (at_300_moved _) rfl rfl ?_
        walk_at "w"
        refine xD (mem_of_get (i := 1) rfl) dm5 hv6 ?_
        walk_at "w"
        refine gJ hk5.ins (at_300_moved _) rfl rfl ?_
        walk_at "w"
        refine setD (i := 1) rfl dm5 (by omega) fun om' dm' => ?_
        walk_at "w"
        have htk : ps.take (j + 1) = ps.take j ++ [x] := by rw [List.take_add_one, hx]; rfl
        refine ⟨[(k.wt, _), (k.mv, _), (k.fc, _), (k.fi, _)] ++ R, rfl, sub₃, _, rfl, ⟨⟨_, _, _, _, _, _, _, _, _, rfl, hvs5, dm', ?_, dc5, hc5, hF5⟩⟩, by walk_at "lk", by walk_at "lk", trivial⟩
        rw [htk, List.foldl_append]
        have hg := hm5.store x t6
        have em : mvOf rows ⟨(withEnd rows S e).W, (ps.take j).foldl addD (withEnd rows S e).D, (withEnd rows S e).C⟩ x = mvOf rows ⟨(withEnd rows S e).W, (ps.take j).foldl addD (withEnd rows S e).D, (withEnd rows S e).C⟩ e := hmvp x hxm
        rw [em] at hg
        exact hg
      · rintro m' M' Φ' _ ⟨sub₃, M5, rfl, hM₅, hL⟩
        rw [hul, List.take_length] at hM₅
        exact ⟨rfl, sub₃, M5, rfl, hM₅, hL⟩
    rintro f m₄ M₄ Φ₄ _ ⟨rfl, sub₄, M5, rfl, hM₅, hL⟩
    clear hL₃
    have hk₄ := hk₂.sub sub₄
    obtain ⟨vs5, n5, om5, oc5, kvm5, kvc5, es5, ne5, t5, e5, hvs5, dm5, hm5, dc5, hc5, hF5⟩ := hM₅.ex
    obtain ⟨t6, hv6⟩ := hm5.val e (mem_fold.mpr (.inl hD₁))
    subst e5
    walk_at "w"
    refine gJ hk₄.ins (at_300_moved _) rfl rfl ?_
    walk_at "w"
    refine xD (mem_of_get (i := 1) rfl) dm5 hv6 ?_
    have em : mvOf rows ⟨(withEnd rows S e).W, ps.foldl addD (withEnd rows S e).D, (withEnd rows S e).C⟩ e = mvOf rows ⟨(withEnd rows S e).W, ps.foldl addD (withEnd rows S e).D, (withEnd rows S e).C⟩ a := by
      unfold mvOf
      rw [hE, hes]
    rw [em]
    exact h _ _ _ t6 (fun p hp => sub₄ p (sub₂ p hp)) I₂ (E₁.trans E₂) ha₂ hM₅
  · exact h S _ _ ta (fun p hp => hp) I .refl ha hM
end

end

section
-- part col3
local macro_rules | `(tactic| walk_at "mem") => `(tactic| first
  | assumption
  | exact List.Mem.head _
  | (refine List.Mem.tail _ ?_; walk_at "mem"))
local macro_rules | `(tactic| walk_at "nm") => `(tactic| first
  | ((with_reducible show EW _ (eval (Expr.Name _ _) (compEnvC _ _ _ _)) _ _ _ _); first
    | (with_reducible refine nCL (List.mem_append_left _ (List.Mem.tail _ (List.Mem.head _))) (by assumption) (by assumption) ?_)
    | ((with_reducible refine' nCC ?hc (List.mem_append_right _ ?hm) ?hd ?_); (case hc => with_unfolding_all rfl); (case hm => walk_at "mem"); (case hd => assumption)))
  | ((with_reducible show EW _ (eval (Expr.Name _ _) _) _ _ _ _);
     ((with_reducible refine' nC ?hc (List.mem_append_right _ ?hm) ?hd ?_); (case hc => with_unfolding_all rfl); (case hm => walk_at "mem"); (case hd => assumption))))
section
variable {c : Cx} {m : Loc} {M Φ : Led} {Q : Value → Loc → Led → Led → Prop} {k : Col} {rows : List Cell} {roots : List Nat}
theorem move_value {S : St} {M4 R : Led} {u : Value} {v : V} (hn : 4 ≤ c.n) (hk : k.Fix Φ) (hO : OldIs c.w Φ k.H rows) (wf : WF rows) (hroots : ∀ a ∈ roots, a < rows.length) (I : Inv rows roots S) (hM : ColM c.w k rows S Φ M4) (hu : DatIn Φ u v.dat) (hr : ∀ b ∈ v.refs, Reach rows roots b)
    (h : ∀ S' M4' Φ' u', (∀ p ∈ Φ, p ∈ Φ') → Inv rows roots S' → Ext rows S S' → (∀ b ∈ v.refs, b ∈ S'.D) → ColM c.w k rows S' Φ' M4' → DatIn Φ' u' (v.map (mvOf rows S')).dat → Q u' m (M4' ++ R) Φ') :
    EW c (call (.ref 278) [.ref k.X, u]) m (M4 ++ R) Φ Q := by
  refine call_def (f := 278) (binds := [("self", .ref k.X), ("value", u)]) (by k_is) (by k_is) (by omega) (by rfl) (locs rfl) rfl rfl rfl (by decide) fun c' hw hn' keep => ?_
  rw [← hw] at hO hM
  simp only [← hw] at h
  cases v with
  | int i =>
    have dv' := hu
    obtain ⟨T, oT, w₁, w₂, rfl, hmT, hoT, d₁, d₂⟩ := tup2 hu
    obtain ⟨t₁, rfl⟩ := dStr d₁
    walk_at "w"
    refine yT (mem_led hmT) hoT (by decide) (by decide) rfl ?_
    walk_at "w"
    exact h S _ _ _ (fun p hp => hp) I .refl (fun b hb => nomatch hb) hM dv'
  | ch i =>
    have dv' := hu
    obtain ⟨T, oT, w₁, w₂, rfl, hmT, hoT, d₁, d₂⟩ := tup2 hu
    obtain ⟨t₁, rfl⟩ := dStr d₁
    walk_at "w"
    refine yT (mem_led hmT) hoT (by decide) (by decide) rfl ?_
    walk_at "w"
    exact h S _ _ _ (fun p hp => hp) I .refl (fun b hb => nomatch hb) hM dv'
  | «at» b =>
    obtain ⟨T, oT, w₁, w₂, rfl, hmT, hoT, d₁, d₂⟩ := tup2 hu
    obtain ⟨t₁, rfl⟩ := dStr d₁
    obtain ⟨t₂, rfl⟩ := dInt d₂
    walk_at "w"
    refine yT (mem_led hmT) hoT (by decide) (by decide) rfl ?_
    walk_at "w"
    refine gMJ hk.ins (by k_is) (by k_is) (by k_is) rfl ?_
    walk_at "w"
    refine yT (mem_led hmT) hoT (by decide) (by decide) rfl ?_
    walk_at "w"
    refine move_spec (by omega) hk hO wf hroots I hM (hr b (.head _)) fun S' M4' Φ' t' sub I' E' hb hM' => ?_
    walk_at "w"
    refine newT (szl (by simp)) fun Z hZ => ?_
    exact h S' _ _ _ (fun p hp => .tail _ (sub p hp)) I' E' (fun x hx => by rw [List.mem_singleton.mp hx]; exact hb) (hM'.sub fun p hp => .tail _ hp) (.tuple (.head _) (.cons (.str _ _) (.cons (.int _ _) .nil)))

theorem move_values {S : St} {M4 R : Led} {l : Addr} {us : List Value} {n : Nat} {vs : List V} (hn : 5 ≤ c.n) (hk : k.Fix Φ) (hO : OldIs c.w Φ k.H rows) (wf : WF rows) (hroots : ∀ a ∈ roots, a < rows.length) (I : Inv rows roots S) (hM : ColM c.w k rows S Φ M4)
    (hl : (l, lo us n) ∈ Φ) (hus : DatAll Φ us (vs.map V.dat)) (hz : vs.length ≤ 1000) (hr : ∀ b ∈ vs.flatMap V.refs, Reach rows roots b)
    (h : ∀ S' M4' Φ' u', (∀ p ∈ Φ, p ∈ Φ') → Inv rows roots S' → Ext rows S S' → (∀ b ∈ vs.flatMap V.refs, b ∈ S'.D) → ColM c.w k rows S' Φ' M4' → DatIn Φ' u' (vsD (vs.map (V.map (mvOf rows S')))) → Q u' m (M4' ++ R) Φ') :
    EW c (call (.ref 283) [.ref k.X, .ref l]) m (M4 ++ R) Φ Q := by
  refine call_defC (f := 283) (binds := [("self", .ref k.X), ("values", .ref l)]) (cl := fun L => [("self", L + 1)]) (by k_is) (by k_is) (by omega) (by rfl) (by with_unfolding_all rfl) (by with_unfolding_all decide) (fun _ => rfl) (fun L x hx => by rw [List.mem_singleton.mp hx]; exact Nat.lt_succ_self _) rfl rfl rfl fun c' cells hw hn' hcells => ?_
  obtain ⟨o₁, rfl, e1⟩ := hcells.one
  have e1 : o₁.data = .cell (some (.ref k.X)) := e1
  rw [← hw] at hO hM
  simp only [← hw] at h
  have hul := hus.length
  rw [List.length_map] at hul
  generalize hm0 : bindL _ _ _ = m₀
  have hL : Locs m₀ [("values", .ref l)] := by rw [← hm0]; exact ⟨by with_unfolding_all rfl, trivial⟩
  clear hm0
  refine execs_cons ?_
  walk_at "st"
  refine Comp_ (cl := [("self", c'.L + 1)]) ?_ (by with_unfolding_all rfl) (by with_unfolding_all decide) (by with_unfolding_all rfl) (by with_unfolding_all decide) (by with_unfolding_all rfl)
  walk_at "w"
  refine ⟨rfl, us.length, _, fun j ys M₂ Φ₂ => (∀ p ∈ (c'.L + 1, o₁) :: Φ, p ∈ Φ₂) ∧ ∃ S' M4', M₂ = M4' ++ R ∧ Inv rows roots S' ∧ Ext rows S S' ∧ (∀ b ∈ (vs.take j).flatMap V.refs, b ∈ S'.D) ∧ ColM c'.w k rows S' Φ₂ M4' ∧ DatAll Φ₂ ys (((vs.take j).map (V.map (mvOf rows S'))).map V.dat), .list ⟨_, LO.lo, .inl (.tail _ hl)⟩ (by omega), ⟨?_, ?_⟩, ?_⟩
  · exact ⟨fun p hp => hp, S, M4, rfl, I, .refl, fun b hb => by simp at hb, hM.sub (fun p hp => .tail _ hp), by rw [List.take_zero]; exact .nil⟩
  · rintro j v ys M₂ Φ₂ It oI C oC E m₂ hj hv' sub₂ ⟨sub₃, S', M4', rfl, I', E', hD', hM', hys⟩ hC hx
    have hj2 : j < vs.length := by omega
    have hvj : vs[j]? = some vs[j] := List.getElem?_eq_getElem hj2
    have htk := take_flat hvj
    have htk2 : ∀ f, ((vs.take (j + 1)).map (V.map f)).map V.dat = ((vs.take j).map (V.map f)).map V.dat ++ [(V.map f vs[j]).dat] := by intro f; rw [List.take_add_one, hvj, List.map_append, List.map_append]; rfl
    obtain ⟨v', hv₂, dv⟩ := datGet hus (i := j) (d := (vs[j]).dat) (by rw [List.getElem?_map, hvj]; rfl)
    rw [hv'] at hv₂
    cases hv₂
    have sub₄ : ∀ p ∈ Φ, p ∈ Φ₂ := fun p hp => sub₃ p (.tail _ hp)
    have dv := dv.mono sub₄
    have hrf : ∀ b ∈ (vs[j]).refs, Reach rows roots b := fun b hb => hr b (List.mem_flatMap.mpr ⟨_, List.mem_of_getElem? hvj, hb⟩)
    have hc1 := sub₃ _ (.head _)
    generalize vs[j] = x at dv htk htk2 hrf
    refine EW.permOut ?_
    walk_at "w"
    refine gMJ (hk.sub sub₄).ins (by k_is) (by k_is) (by k_is) rfl ?_
    walk_at "w"
    refine EW.permIn (List.perm_append_comm_assoc [(It, oI), (C, oC), (E, LCg.lst ys)] M4' R) ?_
    refine move_value (by omega) (hk.sub sub₄) (hO.sub sub₄) wf hroots I' hM' dv hrf fun S'' M4'' Φ₃ u' sub₅ I'' E'' hb'' hM'' du' => ?_
    refine ⟨_, (List.perm_append_comm_assoc [(It, oI), (C, oC), (E, LCg.lst ys)] M4'' R).symm, rfl, M4'' ++ R, rfl, fun p hp => sub₅ p (sub₃ p hp), S'', M4'', rfl, I'', E'.trans E'', ?_, hM'', ?_⟩
    · intro b hb
      rw [htk] at hb
      rcases List.mem_append.mp hb with hb | hb
      · exact E''.d b (hD' b hb)
      · exact hb'' b hb
    · rw [htk2]
      have ev : (vs.take j).map (V.map (mvOf rows S'')) = (vs.take j).map (V.map (mvOf rows S')) := vals_congr fun b hb => I'.mv_ext E'' (hD' b hb)
      rw [ev]
      exact (hys.mono sub₅).append (.one du')
  · rintro ys M₂ Φ₂ E sub₂ ⟨sub₃, S', M4', rfl, I', E', hD', hM', hys⟩
    rw [hul, List.take_length] at hys hD'
    exact h S' M4' _ _ (fun p hp => .tail _ (sub₃ p (.tail _ hp))) I' E' hD' (hM'.sub fun p hp => .tail _ hp) (.list (.head _) (hys.mono fun p hp => .tail _ hp))
end

end

section
-- part col4
section
variable {c : Cx} {m : Loc} {M Φ : Led} {Q : Value → Loc → Led → Led → Prop} {k : Col} {rows : List Cell} {roots : List Nat}
theorem copied {S : St} {M4 R : Led} {u : Value} {cell : Cell} (hn : 6 ≤ c.n) (hk : k.Fix Φ) (hO : OldIs c.w Φ k.H rows) (wf : WF rows) (hroots : ∀ a ∈ roots, a < rows.length) (I : Inv rows roots S) (hM : ColM c.w k rows S Φ M4) (hu : CellV Φ u cell) (hli : cell.isLi = false) (hz : cell.vals.length ≤ 1000)
    (hr : ∀ b ∈ cell.named, Reach rows roots b)
    (h : ∀ S' M4' Φ' u', (∀ p ∈ Φ, p ∈ Φ') → Inv rows roots S' → Ext rows S S' → (∀ b ∈ cell.named, b ∈ S'.D) → ColM c.w k rows S' Φ' M4' → CellV Φ' u' (cell.map (mvOf rows S')) → Q u' m (M4' ++ R) Φ') :
    EW c (call (.ref 290) [.ref k.X, u]) m (M4 ++ R) Φ Q := by
  refine call_def (f := 290) (binds := [("self", .ref k.X), ("cell", u)]) (by k_is) (by k_is) (by omega) (by rfl) (locs rfl) rfl rfl rfl (by decide) fun c' hw hn' keep => ?_
  rw [← hw] at hO hM
  simp only [← hw] at h
  cases hu with
  | @fn x s t u vs hx hd =>
    obtain ⟨l, n, us, rfl, hl, da⟩ := dList hd
    walk_at "w"
    refine isJ hx (isi_fn _) (kit_fn_fn _) ?_
    walk_at "w"
    refine gJ hx (at_fn_code _) rfl rfl ?_
    walk_at "w"
    refine gMJ hk.ins (by k_is) (by k_is) (by k_is) rfl ?_
    walk_at "w"
    refine gJ hx (at_fn_captured _) rfl rfl ?_
    walk_at "w"
    refine move_values (by omega) hk hO wf hroots I hM hl da hz hr fun S' M4' Φ' u' sub I' E' hD' hM' du' => ?_
    walk_at "w"
    refine mk_fn (by omega) fun y Φ₂ sub₂ hy => ?_
    exact h S' M4' _ _ (fun p hp => sub₂ p (sub p hp)) I' E' hD' (hM'.sub sub₂) (.fn hy (du'.mono sub₂))
  | @th x s t u vs hx hd =>
    obtain ⟨l, n, us, rfl, hl, da⟩ := dList hd
    walk_at "w"
    refine isJ hx (isi_th _) (kit_th_fn _) ?_
    walk_at "w"
    refine isJ hx (isi_th _) (kit_th_th _) ?_
    walk_at "w"
    refine gJ hx (at_th_code _) rfl rfl ?_
    walk_at "w"
    refine gMJ hk.ins (by k_is) (by k_is) (by k_is) rfl ?_
    walk_at "w"
    refine gJ hx (at_th_captured _) rfl rfl ?_
    walk_at "w"
    refine move_values (by omega) hk hO wf hroots I hM hl da hz hr fun S' M4' Φ' u' sub I' E' hD' hM' du' => ?_
    walk_at "w"
    refine mk_th (by omega) fun y Φ₂ sub₂ hy => ?_
    exact h S' M4' _ _ (fun p hp => sub₂ p (sub p hp)) I' E' hD' (hM'.sub sub₂) (.th hy (du'.mono sub₂))
  | @da x s t u vs hx hd =>
    obtain ⟨l, n, us, rfl, hl, da⟩ := dList hd
    walk_at "w"
    refine isJ hx (isi_da _) (kit_da_fn _) ?_
    walk_at "w"
    refine isJ hx (isi_da _) (kit_da_th _) ?_
    walk_at "w"
    refine isJ hx (isi_da _) (kit_da_pa _) ?_
    walk_at "w"
    refine isJ hx (isi_da _) (kit_da_da _) ?_
    walk_at "w"
    refine gJ hx (at_da_con _) rfl rfl ?_
    walk_at "w"
    refine gMJ hk.ins (by k_is) (by k_is) (by k_is) rfl ?_
    walk_at "w"
    refine gJ hx (at_da_values _) rfl rfl ?_
    walk_at "w"
    refine move_values (by omega) hk hO wf hroots I hM hl da hz hr fun S' M4' Φ' u' sub I' E' hD' hM' du' => ?_
    walk_at "w"
    refine mk_da (by omega) fun y Φ₂ sub₂ hy => ?_
    exact h S' M4' _ _ (fun p hp => sub₂ p (sub p hp)) I' E' hD' (hM'.sub sub₂) (.da hy (du'.mono sub₂))
  | @pa x t u vs a hx hd =>
    obtain ⟨l, n, us, rfl, hl, da⟩ := dList hd
    walk_at "w"
    refine isJ hx (isi_pa _) (kit_pa_fn _) ?_
    walk_at "w"
    refine isJ hx (isi_pa _) (kit_pa_th _) ?_
    walk_at "w"
    refine isJ hx (isi_pa _) (kit_pa_pa _) ?_
    walk_at "w"
    refine gMJ hk.ins (by k_is) (by k_is) (by k_is) rfl ?_
    walk_at "w"
    refine gJ hx (at_pa_address _) rfl rfl ?_
    walk_at "w"
    refine move_spec (by omega) hk hO wf hroots I hM (hr a (.head _)) fun S₁ M5 Φ₁ t₁ sub₁ I₁ E₁ ha₁ hM₁ => ?_
    walk_at "w"
    have hx₁ := hx.sub sub₁
    have hk₁ := hk.sub sub₁
    refine gMJ hk₁.ins (by k_is) (by k_is) (by k_is) rfl ?_
    walk_at "w"
    refine gJ hx₁ (at_pa_values _) rfl rfl ?_
    walk_at "w"
    refine move_values (by omega) hk₁ (hO.sub sub₁) wf hroots I₁ hM₁ (sub₁ _ hl) (da.mono sub₁) hz (fun b hb => hr b (.tail _ hb)) fun S' M4' Φ' u' sub I' E' hD' hM' du' => ?_
    walk_at "w"
    refine mk_pa (by omega) fun y Φ₂ sub₂ hy => ?_
    have ea := I₁.mv_ext E' ha₁
    refine h S' M4' _ _ (fun p hp => sub₂ p (sub p (sub₁ p hp))) I' (E₁.trans E') (fun b hb => ?_) (hM'.sub sub₂) ?_
    · rcases List.mem_cons.mp hb with rfl | hb
      · exact E'.d _ ha₁
      · exact hD' b hb
    · show CellV Φ₂ (.ref y) (.pa (mvOf rows S' a) (vs.map (V.map (mvOf rows S'))))
      rw [ea]
      exact .pa hy (du'.mono sub₂)
  | @pl x u v hx hd =>
    walk_at "w"
    refine isJ hx (isi_pl _) (kit_pl_fn _) ?_
    walk_at "w"
    refine isJ hx (isi_pl _) (kit_pl_th _) ?_
    walk_at "w"
    refine isJ hx (isi_pl _) (kit_pl_pa _) ?_
    walk_at "w"
    refine isJ hx (isi_pl _) (kit_pl_da _) ?_
    walk_at "w"
    refine isJ hx (isi_pl _) (kit_pl_pl _) ?_
    walk_at "w"
    refine gMJ hk.ins (by k_is) (by k_is) (by k_is) rfl ?_
    walk_at "w"
    refine gJ hx (at_pl_value _) rfl hd.handed ?_
    walk_at "w"
    refine move_value (by omega) hk hO wf hroots I hM hd hr fun S' M4' Φ' u' sub I' E' hD' hM' du' => ?_
    walk_at "w"
    refine mk_pl (by omega) fun y Φ₂ sub₂ hy => ?_
    exact h S' M4' _ _ (fun p hp => sub₂ p (sub p hp)) I' E' hD' (hM'.sub sub₂) (.pl hy (du'.mono sub₂))
  | @ho x hx =>
    walk_at "w"
    refine isJ hx (isi_ho _) (kit_ho_fn _) ?_
    walk_at "w"
    refine isJ hx (isi_ho _) (kit_ho_th _) ?_
    walk_at "w"
    refine isJ hx (isi_ho _) (kit_ho_pa _) ?_
    walk_at "w"
    refine isJ hx (isi_ho _) (kit_ho_da _) ?_
    walk_at "w"
    refine isJ hx (isi_ho _) (kit_ho_pl _) ?_
    walk_at "w"
    refine isJ hx (isi_ho _) (kit_ho_ho _) ?_
    walk_at "w"
    refine mk_ho fun y Φ₂ sub₂ hy => ?_
    exact h S M4 _ _ sub₂ I .refl (fun b hb => nomatch hb) (hM.sub sub₂) (.ho hy)
  | @li x t a hx => cases hli
end

end

section
-- part col5
theorem inv_empty {rows : List Cell} {roots : List Nat} : Inv rows roots ⟨[], [], []⟩ :=
  ⟨List.nodup_nil, fun _ h => (nomatch h), fun _ h => (nomatch h), List.nodup_nil, fun _ h => (nomatch h), fun _ h => (nomatch h), fun _ h => (nomatch h), fun _ h => (nomatch h), rfl⟩
theorem raw_of {rows : List Cell} {roots : List Nat} {S : St} (I : Inv rows roots S) (E : Ext rows ⟨[], [], []⟩ S) : ∀ (i e : Nat), S.W[i]? = some e → S.C[i]? = rows[e]? := by
  intro i e he
  obtain ⟨ws, h1, h2⟩ := E.w
  rw [List.nil_append] at h1 h2
  obtain ⟨c, hc, _⟩ := I.we e (List.mem_of_getElem? he)
  rw [h2, ← h1, List.getElem?_map, he, hc]
  simp [List.getD, hc]
theorem at_of {rows : List Cell} {roots : List Nat} {S : St} (I : Inv rows roots S) {i e : Nat} {c : Cell} (h : S.W[i]? = some e) (hc : rows[e]? = some c) (hl : c.isLi = false) : mvOf rows S e = i := by
  have hi := lt_of_get h
  unfold mvOf
  rw [endOf_stop hc hl]
  have := I.wn.idxOf_getElem i hi
  rw [List.getElem?_eq_getElem hi] at h
  cases h
  exact this
section
variable {c : Cx} {m : Loc} {M Φ : Led} {Q : Value → Loc → Led → Led → Prop} {rows : List Cell} {roots : List Nat}
theorem col_make {H : Addr} (hn : 4 ≤ c.n) (h : ∀ (k : Col) M4 Φ', (∀ p ∈ Φ, p ∈ Φ') → k.H = H → k.Fix Φ' → ColM c.w k rows ⟨[], [], []⟩ Φ' M4 → Q (.ref k.X) m (M4 ++ M) Φ') : EW c (call (.ref 300) [.ref H]) m M Φ Q := by
  refine call_class (C := 300) (fI := 257) (binds := fun x => [("self", .ref x), ("heap", .ref H)]) (by k_is) (by k_is) (by k_is) (by k_is) (by k_is) (by omega) (fun _ => by rfl) (fun _ => locs rfl) rfl rfl rfl (by decide) fun x dx c' l1 l2 hw hn' => ?_
  walk_at "w"
  refine sA (i := 0) (mem_led (.head _)) rfl .nil (by k_is) (by k_is) (by k_is) (by k_is) fun es n F => ?_
  walk_at "w"
  refine heap_make (by omega) fun Fa fi esf nf fc oc tf lf Ff dc => ?_
  walk_at "w"
  refine sA (i := 2) (mem_led (.tail _ (.head _))) rfl F (by k_is) (by k_is) (by k_is) (by k_is) fun es n F => ?_
  walk_at "w"
  refine newD fun mv om dm lm => ?_
  walk_at "w"
  refine sA (i := 3) (mem_led (.tail _ (.head _))) rfl F (by k_is) (by k_is) (by k_is) (by k_is) fun es n F => ?_
  walk_at "w"
  refine newLM (szl (by simp)) fun wt hwt => ?_
  walk_at "w"
  refine sA (i := 4) (mem_led (.tail _ (.head _))) rfl F (by k_is) (by k_is) (by k_is) (by k_is) fun es n F => ?_
  refine EW.permIn (List.perm_append_comm_assoc [(wt, lo [] 0), (mv, om), (fc, oc), (fi, dictOf esf nf)] [(dx, dictOf es n)] M) (EW.frozen ?_)
  walk_at "w"
  rw [hw] at dc dm
  exact ⟨rfl, h ⟨x, Fa, H, wt, mv, fc, fi⟩ [(wt, lo [] 0), (mv, om), (fc, oc), (fi, dictOf esf nf)] _ (fun p hp => .tail _ (.tail _ (.tail _ hp))) rfl ⟨⟨dx, es, n, .tail _ (.tail _ (.head _)), .head _, F⟩, .tail _ (.head _)⟩
    ⟨[], 0, om, oc, [], [], esf, nf, tf, rfl, IntL.nil, dm, ⟨rfl, fun _ h => nomatch h⟩, dc, ⟨rfl, fun i c e => by simp at e⟩, Ff⟩⟩
end

end

section
-- part col6
section
variable {c : Cx} {m : Loc} {M Φ : Led} {Q : Value → Loc → Led → Led → Prop} {k : Col} {rows : List Cell} {roots : List Nat}
theorem run_spec {S : St} {M4 R : Led} (hn : 7 ≤ c.n) (hk : k.Fix Φ) (hO : OldIs c.w Φ k.H rows) (wf : WF rows) (hroots : ∀ a ∈ roots, a < rows.length) (I : RunInv rows roots S 0) (hM : ColM c.w k rows S Φ M4)
    (h : ∀ S' M4' Φ', (∀ p ∈ Φ, p ∈ Φ') → RunInv rows roots S' S'.W.length → (∀ a ∈ S.D, a ∈ S'.D) → ColM c.w k rows S' Φ' M4' → Q .none m (M4' ++ R) Φ') :
    EW c (call (.ref 297) [.ref k.X]) m (M4 ++ R) Φ Q := by
  refine call_def (f := 297) (binds := [("self", .ref k.X)]) (by k_is) (by k_is) (by omega) (by rfl) (locs rfl) rfl rfl rfl (by decide) fun c' hw hn' keep => ?_
  rw [← hw] at hO hM
  simp only [← hw] at h
  have hmany := wf.many
  walk_at "w"
  refine EW.mono (Q := fun f m' M' Φ' => f = .next ∧ (∀ p ∈ Φ, p ∈ Φ') ∧ ∃ S' M4', M' = M4' ++ R ∧ RunInv rows roots S' S'.W.length ∧ (∀ a ∈ S.D, a ∈ S'.D) ∧ ColM c'.w k rows S' Φ' M4')
    (While_ (fun j m' M' Φ' => (∀ p ∈ Φ, p ∈ Φ') ∧ ∃ S' M4' i t, j = rows.length - i ∧ M' = M4' ++ R ∧ RunInv rows roots S' i ∧ (∀ a ∈ S.D, a ∈ S'.D) ∧ ColM c'.w k rows S' Φ' M4' ∧ Locs m' [("self", .ref k.X), ("at", .int (i : Nat) t)]) rows.length ?_ ?_) ?_
  · exact ⟨fun p hp => hp, S, M4, 0, _, by omega, rfl, I, fun a h => h, hM, by walk_at "lk", by walk_at "lk", trivial⟩
  · rintro j m' M' Φ' _ ⟨sub, S₁, M5, i, ti, rfl, rfl, I₁, hD₁, hM₁, hL⟩
    have hk₁ := hk.sub sub
    have hO₁ := hO.sub sub
    obtain ⟨vs, n, om, oc, kvm, kvc, es, ne, tn, e4, hvs, dm, hm, dc, hc, hF⟩ := hM₁.ex
    have hvl := hvs.length
    have hWl := I₁.inv.wmany
    subst e4
    walk_at "w"
    refine gJ hk₁.ins (at_300_waiting _) rfl rfl ?_
    walk_at "w"
    refine lenL (mem_of_get (i := 0) rfl) LO.lo (by omega) fun _ => ?_
    walk_at "w"
    by_cases hlt : i < S₁.W.length
    · have hwi : S₁.W[i]? = some S₁.W[i] := List.getElem?_eq_getElem hlt
      refine ite_T (by rw [decide_eq_true]; omega) ?_
      generalize S₁.W[i] = e at hwi
      obtain ⟨te, hve⟩ := hvs.get hwi
      have hem := List.mem_of_getElem? hwi
      have heD := I₁.inv.wd e hem
      obtain ⟨cell, hcell, hli⟩ := I₁.inv.we e hem
      obtain ⟨tm, hvm⟩ := hm.val e heD
      have hat := at_of I₁.inv hwi hcell hli
      have hrn : ∀ b ∈ cell.named, Reach rows roots b := fun b hb => .step (I₁.inv.dr e heD) hcell hb
      have hzl := wf.vals e cell hcell
      walk_at "w"
      refine gJ hk₁.ins (at_300_waiting _) rfl rfl ?_
      walk_at "w"
      refine yL (mem_of_get (i := 0) rfl) LO.lo (by omega) (by omega) (by simpa using hve) ?_
      walk_at "w"
      refine gJ hk₁.ins (at_300_fresh _) rfl rfl ?_
      refine gM (mem_led hk₁.fr) (mem_of_get (i := 3) rfl) hF (by k_is) (by k_is) (by k_is) rfl ?_
      walk_at "w"
      refine gJ hk₁.ins (at_300_moved _) rfl rfl ?_
      walk_at "w"
      refine xD (mem_of_get (i := 1) rfl) dm hvm ?_
      walk_at "w"
      refine gMJ hk₁.ins (by k_is) (by k_is) (by k_is) rfl ?_
      walk_at "w"
      refine gJ hk₁.ins (at_300_heap _) rfl rfl ?_
      refine old_meth hO₁ (by k_is) (by k_is) (by k_is) ?_
      walk_at "w"
      refine old_get (by omega) hO₁ hcell fun v hv => ?_
      walk_at "w"
      refine copied (by omega) hk₁ hO₁ wf hroots I₁.inv hM₁ hv hli (by omega) hrn fun S₂ M6 Φ₂ u' sub₂ I₂ E₂ hD₂ hM₂ hu' => ?_
      have R₂ := I₁.ext I₂ E₂
      have hwi₂ : S₂.W[i]? = some e := by
        obtain ⟨ws, h1, _⟩ := E₂.w
        rw [h1, List.getElem?_append_left hlt]
        exact hwi
      have R₃ := R₂.next hwi₂ hcell hD₂
      obtain ⟨vs2, n2, om2, oc2, kvm2, kvc2, es2, ne2, tn2, e4, hvs2, dm2, hm2, dc2, hc2, hF2⟩ := hM₂.ex
      have hcl2 := hc2.len
      have hCl2 := I₂.cl
      have hWl2 := I₂.wmany
      subst e4
      walk_at "w"
      refine heap_put (i := 2) (by omega) (sub₂ _ hk₁.fr) (mem_of_get (i := 3) rfl) hF2 rfl dc2 (by omega) fun oc3 dc3 => ?_
      walk_at "w"
      refine AugName_ (lN (hL.get (by with_unfolding_all rfl)) ?_)
      walk_at "w"
      refine iIadd fun t9 => ?_
      walk_at "w"
      refine ⟨rows.length - (i + 1), by omega, fun p hp => sub₂ p (sub p hp), _, [(k.wt, lo vs2 n2), (k.mv, om2), (k.fc, oc3), (k.fi, dictOf es2 ne2)], i + 1, t9, rfl, rfl, R₃, fun a ha => E₂.d a (hD₁ a ha), ?_, ?_⟩
      · rw [hat] at dc3
        exact ⟨⟨_, _, _, _, _, _, _, _, _, rfl, hvs2, dm2, ⟨hm2.keys, hm2.val⟩, dc3, hc2.set (lt_of_get hwi₂ |> fun z => by rw [hCl2]; exact z) hu', hF2⟩⟩
      · exact ⟨by walk_at "lk", by walk_at "lk", trivial⟩
    · refine ite_F (by simp; omega) ?_
      have hi : i = S₁.W.length := by have := I₁.hk; omega
      subst hi
      exact ⟨rfl, sub, S₁, _, rfl, I₁, hD₁, hM₁⟩
  rintro f m₂ M₂ Φ₂ _ ⟨rfl, sub, S', M5, rfl, R', hD', hM'⟩
  walk_at "w"
  exact h S' M5 _ sub R' hD' hM'
end

end

section
-- part col7
section
variable {c : Cx} {m : Loc} {M Φ : Led} {Q : Value → Loc → Led → Led → Prop} {rows : List Cell} {roots : List Nat}
theorem collected {H r : Addr} {rs : List Value} {nr : Nat} (hn : 9 ≤ c.n) (hO : OldIs c.w Φ H rows) (wf : WF rows) (hroots : ∀ a ∈ roots, a < rows.length) (hrs : (r, lo rs nr) ∈ Φ) (hri : IntL rs roots)
    (h : ∀ (k : Col) S M4 Φ' T, (∀ p ∈ Φ, p ∈ Φ') → Done rows roots S → k.Fix Φ' → ColM c.w k rows S Φ' M4 → (T, tp [.ref k.F, .ref k.mv] 0) ∈ Φ' → Q (.ref T) m (M4 ++ M) Φ') :
    EW c (call (.ref 311) [.ref H, .ref r]) m M Φ Q := by
  refine call_def (f := 311) (binds := [("heap", .ref H), ("roots", .ref r)]) (by k_is) (by k_is) (by omega) (by rfl) (locs rfl) rfl rfl rfl (by decide) fun c' hw hn' keep => ?_
  rw [← hw] at hO
  simp only [← hw] at h
  have hrl := hri.length
  refine execs_cons (EW.mono (Q := fun f m' M' Φ' => f = .next ∧ (∀ p ∈ Φ, p ∈ Φ') ∧ ∃ (k : Col) (M4 : Led), M' = M4 ++ M ∧ k.H = H ∧ k.Fix Φ' ∧ ColM c'.w k rows ⟨[], [], []⟩ Φ' M4 ∧ Locs m' [("roots", .ref r), ("collector", .ref k.X)]) ?_ ?_)
  · walk_at "w"
    refine col_make (rows := rows) (by omega) fun k M4 Φ' sub hH hk hM => ?_
    walk_at "w"
    exact ⟨rfl, sub, k, M4, rfl, hH, hk, hM, by walk_at "lk", by walk_at "lk", trivial⟩
  rintro f m₁ M₁ Φ₁ _ ⟨rfl, sub₁, k, M4, rfl, rfl, hk, hM, hL₁⟩
  have hO₁ := hO.sub sub₁
  refine execs_cons (EW.mono (Q := fun f m' M' Φ' => f = .next ∧ (∀ p ∈ Φ₁, p ∈ Φ') ∧ ∃ S M4, M' = M4 ++ M ∧ Inv rows roots S ∧ Ext rows ⟨[], [], []⟩ S ∧ (∀ a ∈ roots, a ∈ S.D) ∧ ColM c'.w k rows S Φ' M4 ∧ Locs m' [("collector", .ref k.X)]) ?_ ?_)
  · refine For_list ?_
    walk_at "w"
    refine ⟨r, rs, fun j m' M' Φ' => (∀ p ∈ Φ₁, p ∈ Φ') ∧ ∃ S M4, M' = M4 ++ M ∧ Inv rows roots S ∧ Ext rows ⟨[], [], []⟩ S ∧ (∀ a ∈ roots.take j, a ∈ S.D) ∧ ColM c'.w k rows S Φ' M4 ∧ Locs m' [("collector", .ref k.X)], rfl, ⟨_, LO.lo, .inl (sub₁ _ hrs)⟩, ⟨?_, ?_, ?_⟩⟩
    · exact ⟨fun p hp => hp, ⟨[], [], []⟩, M4, rfl, inv_empty, .refl, fun a ha => by simp at ha, hM, by walk_at "lk", trivial⟩
    · rintro j v m' M' Φ' R hj hv _ ⟨sub₂, S, M5, rfl, I, E, hD, hM₂, hL⟩
      obtain ⟨a, ta, ha, rfl⟩ := hri.get' hv
      have ham := List.mem_of_getElem? ha
      have htk : roots.take (j + 1) = roots.take j ++ [a] := by rw [List.take_add_one, ha]; rfl
      walk_at "w"
      refine gMJ (hk.sub sub₂).ins (by k_is) (by k_is) (by k_is) rfl ?_
      walk_at "w"
      rw [List.append_assoc]
      refine move_spec (by omega) (hk.sub sub₂) (hO₁.sub sub₂) wf hroots I hM₂ (.root ham) fun S' M6 Φ₃ t sub₃ I' E' ha' hM₃ => ?_
      walk_at "w"
      refine ⟨M6 ++ M, by rw [List.append_assoc], fun p hp => sub₃ p (sub₂ p hp), S', M6, rfl, I', E.trans E', fun x hx => ?_, hM₃, by walk_at "lk", trivial⟩
      rw [htk] at hx
      rcases List.mem_append.mp hx with hx | hx
      · exact E'.d x (hD x hx)
      · rw [List.mem_singleton.mp hx]; exact ha'
    · rintro m' M' Φ' _ ⟨sub₂, S, M5, rfl, I, E, hD, hM₂, hL⟩
      rw [hrl, List.take_length] at hD
      exact ⟨rfl, sub₂, S, M5, rfl, I, E, hD, hM₂, hL⟩
  rintro f m₂ M₂ Φ₂ _ ⟨rfl, sub₂, S, M5, rfl, I, E, hD, hM₂, hL⟩
  have hk₂ := hk.sub sub₂
  walk_at "w"
  refine gMJ hk₂.ins (by k_is) (by k_is) (by k_is) rfl ?_
  walk_at "w"
  refine run_spec (by omega) hk₂ (hO₁.sub sub₂) wf hroots (RunInv.start I (raw_of I E)) hM₂ fun S' M6 Φ₃ sub₃ R' hD' hM₃ => ?_
  have hk₃ := hk₂.sub sub₃
  walk_at "w"
  refine gJ hk₃.ins (at_300_fresh _) rfl rfl ?_
  walk_at "w"
  refine gJ hk₃.ins (at_300_moved _) rfl rfl ?_
  walk_at "w"
  refine newT (szl (by simp)) fun T hT => ?_
  exact h k S' M6 _ T (fun p hp => .tail _ (sub₃ p (sub₂ p (sub₁ p hp)))) (R'.fin fun a ha => hD' a (hD a ha)) (hk₃.sub fun p hp => .tail _ hp) (hM₃.sub fun p hp => .tail _ hp) (.head _)
end

end

section
-- part lawA
local macro_rules | `(tactic| walk_at "mem") => `(tactic| first
  | assumption
  | exact List.Mem.head _
  | (refine List.Mem.tail _ ?_; walk_at "mem"))
local macro_rules | `(tactic| walk_at "nm") => `(tactic| first
  | ((with_reducible show EW _ (eval (Expr.Name _ _) (compEnvC _ _ _ _)) _ _ _ _); first
    | (with_reducible refine nCL (List.mem_append_left _ (List.Mem.tail _ (List.Mem.head _))) (by assumption) (by assumption) ?_)
    | ((with_reducible refine' nCC ?hc (List.mem_append_right _ ?hm) ?hd ?_); (case hc => with_unfolding_all rfl); (case hm => walk_at "mem"); (case hd => assumption)))
  | ((with_reducible show EW _ (eval (Expr.Name _ _) _) _ _ _ _);
     ((with_reducible refine' nC ?hc (List.mem_append_right _ ?hm) ?hd ?_); (case hc => with_unfolding_all rfl); (case hm => walk_at "mem"); (case hd => assumption))))
def lawBody : List Stmt := match PySem.Challenge.pw_np0229_01.main.body.getLast? with
  | some (.FunctionDef _ _ b _ _ _ _ _ _ _) => b
  | _ => []
def lawScope : Scope := match PySem.Challenge.pw_np0229_01.main.body.getLast? with
  | some (.FunctionDef _ _ _ _ _ _ s _ _ _) => s
  | _ => default
abbrev lawEnv (L fa : Addr) (cd : Value) : Env := envX "law" lawScope L fa cd [("moved", L + 4), ("heap", L + 3), ("rows", L + 2), ("source", L + 1)]
structure LA (c : Cx) (Φ : Led) (src Dr H : Addr) (rows : List Cell) : Prop where
  k1 : ∃ o, (c.L + 1, o) ∈ Φ ∧ o.data = .cell (some (.ref src))
  k2 : ∃ o, (c.L + 2, o) ∈ Φ ∧ o.data = .cell (some (.ref Dr))
  k3 : ∃ o, (c.L + 3, o) ∈ Φ ∧ o.data = .cell (some (.ref H))
  rowsAt : RowsAt Φ Dr rows
  wf : WF rows
  pos : 1 ≤ rows.length
  old : OldIs c.w Φ H rows
theorem LA.sub {c : Cx} {Φ Φ' : Led} {src Dr H : Addr} {rows : List Cell} (h : LA c Φ src Dr H rows) (sub : ∀ p ∈ Φ, p ∈ Φ') : LA c Φ' src Dr H rows :=
  ⟨let ⟨o, a, b⟩ := h.k1; ⟨o, sub _ a, b⟩, let ⟨o, a, b⟩ := h.k2; ⟨o, sub _ a, b⟩, let ⟨o, a, b⟩ := h.k3; ⟨o, sub _ a, b⟩, h.rowsAt.sub sub, h.wf, h.pos, h.old.sub sub⟩
theorem FreshIs.old {w : World} {Φ : Led} {H dx cd : Addr} {rows : List Cell} {es : List DictEntry} {n : Nat} {o : Obj} {kvs : List (Int × Value)} {k : Int} {t : Tok} (h : FreshIs Φ rows kvs) (h1 : (H, instObj 232 dx) ∈ Φ) (h2 : (dx, dictOf es n) ∈ Φ) (F : Flds es [("cells", .ref cd), ("next", .int k t)]) (h3 : (cd, o) ∈ Φ) (D : DO w cd o kvs) : OldIs w Φ H rows :=
  ⟨⟨dx, es, n, cd, o, kvs, k, t, h1, h2, F, h3, D, h.val⟩⟩
section
variable {c : Cx} {m : Loc} {Φ : Led} {Q : Flow → Loc → Led → Led → Prop} {fa : Addr} {cd : Value}
theorem law_A {l : Addr} {vs : List Value} {ns : List Int} {o1 o2 o3 o4 : Obj} (hn : 20 ≤ c.n) (hs : SrcAt c Φ l vs) (hi : IntsAre vs ns) (hz : ns.length ≤ 63) (hL : Locs m [("script", .ref l)])
    (d1 : o1.data = .cell none) (d2 : o2.data = .cell none) (d3 : o3.data = .cell none)
    (h : ∀ m' Φ' src so Dr H rows, LA c Φ' src Dr H rows → SrcOk so → EW c (execs (lawBody.drop 4) (lawEnv c.L fa cd)) m' [(src, so), (c.L + 4, o4)] Φ' Q) :
    EW c (execs lawBody (lawEnv c.L fa cd)) m [(c.L + 4, o4), (c.L + 3, o3), (c.L + 2, o2), (c.L + 1, o1)] Φ Q := by
  -- source
  refine execs_cons (EW.mono (Q := fun f m' M' Φ' => f = .next ∧ (∀ p ∈ Φ, p ∈ Φ') ∧ ∃ src so o, M' = [(src, so), (c.L + 4, o4), (c.L + 3, o3), (c.L + 2, o2)] ∧ SrcOk so ∧ (c.L + 1, o) ∈ Φ' ∧ o.data = .cell (some (.ref src))) ?_ ?_)
  · refine EW.freeze (EW.permOut ?_)
    walk_at "w"
    refine law_pool (by omega) hs hi hz fun src so Φ' sub hlt hso => ?_
    walk_at "w"
    refine sC (i := 4) (by with_unfolding_all rfl) rfl d1 fun o' hd' => ?_
    exact ⟨_, List.perm_append_comm (l₁ := [(src, so), (c.L + 4, o4), (c.L + 3, o3), (c.L + 2, o2)]) (l₂ := [(c.L + 1, o')]), _, _, rfl, rfl, fun p hp => .tail _ (sub p hp), src, so, o', rfl, hso, .head _, hd'⟩
  rintro f m₁ M₁ Φ₁ _ ⟨rfl, sub₁, src, so, o1', rfl, hso, hk1, dk1⟩
  -- rows
  refine execs_cons (EW.mono (Q := fun f m' M' Φ' => f = .next ∧ (∀ p ∈ Φ₁, p ∈ Φ') ∧ ∃ so Dr rows o, M' = [(src, so), (c.L + 4, o4), (c.L + 3, o3)] ∧ SrcOk so ∧ (c.L + 2, o) ∈ Φ' ∧ o.data = .cell (some (.ref Dr)) ∧ RowsAt Φ' Dr rows ∧ WF rows ∧ 1 ≤ rows.length) ?_ ?_)
  · refine EW.freeze (EW.permOut ?_)
    walk_at "w"
    refine law_rows (i := 0) (by omega) rfl hso fun Dr so' rows Φ' sub hso' wf hpos hr => ?_
    walk_at "w"
    refine sC (i := 3) (by with_unfolding_all rfl) rfl d2 fun o' hd' => ?_
    exact ⟨_, List.perm_append_comm (l₁ := [(src, so'), (c.L + 4, o4), (c.L + 3, o3)]) (l₂ := [(c.L + 2, o')]), _, _, rfl, rfl, fun p hp => .tail _ (sub p hp), so', Dr, rows, o', rfl, hso', .head _, hd', hr.sub fun p hp => .tail _ hp, wf, hpos⟩
  rintro f m₂ M₂ Φ₂ _ ⟨rfl, sub₂, so₂, Dr, rows, o2', rfl, hso₂, hk2, dk2, hr, wf, hpos⟩
  -- heap
  refine execs_cons (EW.mono (Q := fun f m' M' Φ' => f = .next ∧ (∀ p ∈ Φ₂, p ∈ Φ') ∧ ∃ H hx es n ce co t o, M' = [(ce, co), (hx, dictOf es n), (src, so₂), (c.L + 4, o4)] ∧ (c.L + 3, o) ∈ Φ' ∧ o.data = .cell (some (.ref H)) ∧ (H, instObj 232 hx) ∈ Φ' ∧ Flds es [("cells", .ref ce), ("next", .int 0 t)] ∧ DO c.w ce co []) ?_ ?_)
  · refine EW.freeze (EW.permOut ?_)
    walk_at "w"
    refine heap_make (by omega) fun H hx es n ce co t hlt F dc => ?_
    walk_at "w"
    refine sC (i := 4) (by with_unfolding_all rfl) rfl d3 fun o' hd' => ?_
    exact ⟨_, List.perm_append_comm (l₁ := [(ce, co), (hx, dictOf es n), (src, so₂), (c.L + 4, o4)]) (l₂ := [(c.L + 3, o')]), _, _, rfl, rfl, fun p hp => .tail _ (.tail _ hp), H, hx, es, n, ce, co, t, o', rfl, .head _, hd', .tail _ (.head _), F, dc⟩
  rintro f m₃ M₃ Φ₃ _ ⟨rfl, sub₃, H, hx, es, n, ce, co, t, o3', rfl, hk3, dk3, hH, hF, dc⟩
  have hr₃ := hr.sub sub₃
  obtain ⟨us, nu, hl, hlen, get⟩ := hr₃.get
  have hmany := wf.many
  have hk2' := sub₃ _ hk2
  -- the cells
  refine execs_cons (EW.mono (Q := fun f m' M' Φ' => f = .next ∧ (∀ p ∈ Φ₃, p ∈ Φ') ∧ ∃ es n co kvs t, M' = [(ce, co), (hx, dictOf es n), (src, so₂), (c.L + 4, o4)] ∧ Flds es [("cells", .ref ce), ("next", .int (rows.length : Nat) t)] ∧ DO c.w ce co kvs ∧ FreshIs Φ' rows kvs) ?_ ?_)
  · refine For_list ?_
    walk_at "w"
    refine ⟨Dr, us, fun j m' M' Φ' => (∀ p ∈ Φ₃, p ∈ Φ') ∧ ∃ es n co kvs t, M' = [(ce, co), (hx, dictOf es n), (src, so₂), (c.L + 4, o4)] ∧ Flds es [("cells", .ref ce), ("next", .int (j : Nat) t)] ∧ DO c.w ce co kvs ∧ FreshIs Φ' (rows.take j) kvs, rfl, ⟨_, LO.lo, .inl hl⟩, ⟨?_, ?_, ?_⟩⟩
    · exact ⟨fun p hp => hp, es, n, co, [], t, rfl, hF, dc, ⟨rfl, fun i x e => by simp at e⟩⟩
    · rintro j v m' M' Φ' R hj hv _ ⟨sub', es', n', co', kvs, t', rfl, hF', dc', hf⟩
      have hj2 : j < rows.length := by omega
      have hcj : rows[j]? = some rows[j] := List.getElem?_eq_getElem hj2
      obtain ⟨v', d, hv', hd, hrow⟩ := get _ _ hcj
      rw [hv] at hv'
      cases hv'
      have htk : rows.take (j + 1) = rows.take j ++ [rows[j]] := by rw [List.take_add_one, hcj]; rfl
      have htl : (rows.take j).length = j := by rw [List.length_take]; omega
      have hvl := wf.vals j _ hcj
      have hfl := hf.len
      have hk3' := sub' _ hk3
      generalize rows[j] = cell at hrow htk hvl
      walk_at "w"
      refine gM (mem_led (sub' _ hH)) (mem_of_get (i := 1) rfl) hF' (by k_is) (by k_is) (by k_is) rfl ?_
      walk_at "w"
      walk_at "w"
      refine law_cell (by omega) (hd.mono sub') hrow (by omega) fun u Φ'' sub'' hu => ?_
      walk_at "w"
      refine heap_new (i := 1) (j := 0) (by omega) (sub'' _ (sub' _ hH)) rfl hF' rfl (by decide) dc' (by omega) fun es₂ n₂ o₂ t₂ F₂ D₂ => ?_
      walk_at "w"
      have hf₂ := (hf.sub sub'').new hu
      rw [htl] at hf₂
      exact ⟨[(ce, o₂), (hx, dictOf es₂ n₂), (src, so₂), (c.L + 4, o4)], rfl, fun p hp => sub'' p (sub' p hp), es₂, n₂, o₂, _, t₂, rfl, F₂, D₂, by rw [htk]; exact hf₂⟩
    · rintro m' M' Φ' _ ⟨sub', es', n', co', kvs, t', rfl, hF', dc', hf⟩
      rw [hlen, List.take_length] at hf
      rw [hlen] at hF'
      exact ⟨rfl, sub', es', n', co', kvs, t', rfl, hF', dc', hf⟩
  rintro f m₄ M₄ Φ₄ _ ⟨rfl, sub₄, es₄, n₄, co₄, kvs, t₄, rfl, hF₄, dc₄, hf⟩
  refine EW.frozen (EW.frozen ?_)
  refine h m₄ _ src so₂ Dr H rows ⟨⟨o1', .tail _ (.tail _ (sub₄ _ (sub₃ _ (sub₂ _ hk1)))), dk1⟩, ⟨o2', .tail _ (.tail _ (sub₄ _ hk2')), dk2⟩, ⟨o3', .tail _ (.tail _ (sub₄ _ hk3)), dk3⟩, hr₃.sub fun p hp => .tail _ (.tail _ (sub₄ _ hp)), wf, hpos, ?_⟩ hso₂
  exact (hf.sub fun p hp => .tail _ (.tail _ hp)).old (.tail _ (.tail _ (sub₄ _ hH))) (.head _) hF₄ (.tail _ (.head _)) dc₄
end

end

section
-- part lawB
local macro_rules | `(tactic| walk_at "mem") => `(tactic| first
  | assumption
  | exact List.Mem.head _
  | (refine List.Mem.tail _ ?_; walk_at "mem"))
local macro_rules | `(tactic| walk_at "nm") => `(tactic| first
  | ((with_reducible show EW _ (eval (Expr.Name _ _) (compEnvC _ _ _ _)) _ _ _ _); first
    | (with_reducible refine nCL (List.mem_append_left _ (List.Mem.tail _ (List.Mem.head _))) (by assumption) (by assumption) ?_)
    | ((with_reducible refine' nCC ?hc (List.mem_append_right _ ?hm) ?hd ?_); (case hc => with_unfolding_all rfl); (case hm => walk_at "mem"); (case hd => assumption)))
  | ((with_reducible show EW _ (eval (Expr.Name _ _) _) _ _ _ _);
     ((with_reducible refine' nC ?hc (List.mem_append_right _ ?hm) ?hd ?_); (case hc => with_unfolding_all rfl); (case hm => walk_at "mem"); (case hd => assumption))))
theorem Cell.out_ok {n i : Nat} {c : Cell} (h : c.wf n i) (j : Nat) : kqdOk (j + 3) c.out = true := by
  have k1 : PyData.strOk "function" = true := by decide +kernel
  have k2 : PyData.strOk "thunk" = true := by decide +kernel
  have k3 : PyData.strOk "partial" = true := by decide +kernel
  have k4 : PyData.strOk "data" = true := by decide +kernel
  have k5 : PyData.strOk "hole" = true := by decide +kernel
  have k6 : PyData.strOk "plain" = true := by decide +kernel
  have k7 : PyData.strOk "link" = true := by decide +kernel
  cases c with
  | fn s vs =>
    show (PyData.strOk "function" && (PyData.strOk s && (kqdOk (j + 2) (vsD vs) && true))) = true
    rw [k1, h.1, vsD_ok h.2]; rfl
  | th s vs =>
    show (PyData.strOk "thunk" && (PyData.strOk s && (kqdOk (j + 2) (vsD vs) && true))) = true
    rw [k2, h.1, vsD_ok h.2]; rfl
  | da s vs =>
    show (PyData.strOk "data" && (PyData.strOk s && (kqdOk (j + 2) (vsD vs) && true))) = true
    rw [k4, h.1, vsD_ok h.2]; rfl
  | pa a vs =>
    show (PyData.strOk "partial" && (true && (kqdOk (j + 2) (vsD vs) && true))) = true
    rw [k3, vsD_ok h.2]; rfl
  | ho =>
    show (PyData.strOk "hole" && (true && (true && true))) = true
    rw [k5]; rfl
  | pl v =>
    show (PyData.strOk "plain" && (true && (kqdOk (j + 2) (vsD [v]) && true))) = true
    rw [k6, vsD_ok (n := n) (fun x hx => by rw [List.mem_singleton.mp hx]; exact h)]; rfl
  | li a =>
    show (PyData.strOk "link" && (true && (true && true))) = true
    rw [k7]; rfl
structure LB (c : Cx) (Φ : Led) (src Dr H : Addr) (rows : List Cell) (roots : List Nat) (S : St) (k : Col) (Ad Rd Td : Addr) : Prop where
  la : LA c Φ src Dr H rows
  rl : ∀ a ∈ roots, a < rows.length
  rn : roots.length ≤ 4
  done : Done rows roots S
  fix : k.Fix Φ
  ahead : ∃ us n, (Ad, lo us n) ∈ Φ ∧ DatAll Φ us (rows.map Cell.out)
  rts : ∃ us n, (Rd, lo us n) ∈ Φ ∧ IntL us roots
  told : ∃ us n, (Td, lo us n) ∈ Φ ∧ DatAll Φ us ((roots.map V.at ++ [V.int 7]).map V.dat)
  k4 : ∃ o, (c.L + 4, o) ∈ Φ ∧ o.data = .cell (some (.ref k.mv))
  mv : ∃ o kvs, (k.mv, o) ∈ Φ ∧ DO c.w k.mv o kvs ∧ MovedIs rows S kvs
  fc : ∃ o kvs, (k.fc, o) ∈ Φ ∧ DO c.w k.fc o kvs ∧ FreshIs Φ S.C kvs
  fi : ∃ es n t, (k.fi, dictOf es n) ∈ Φ ∧ Flds es [("cells", .ref k.fc), ("next", .int (S.W.length : Nat) t)]
theorem LB.sub {c : Cx} {Φ Φ' : Led} {src Dr H : Addr} {rows : List Cell} {roots : List Nat} {S : St} {k : Col} {Ad Rd Td : Addr} (h : LB c Φ src Dr H rows roots S k Ad Rd Td) (sub : ∀ p ∈ Φ, p ∈ Φ') : LB c Φ' src Dr H rows roots S k Ad Rd Td :=
  ⟨h.la.sub sub, h.rl, h.rn, h.done, h.fix.sub sub, let ⟨a, b, x, y⟩ := h.ahead; ⟨a, b, sub _ x, y.mono sub⟩, let ⟨a, b, x, y⟩ := h.rts; ⟨a, b, sub _ x, y⟩, let ⟨a, b, x, y⟩ := h.told; ⟨a, b, sub _ x, y.mono sub⟩,
   let ⟨o, a, b⟩ := h.k4; ⟨o, sub _ a, b⟩, let ⟨o, v, x, y, z⟩ := h.mv; ⟨o, v, sub _ x, y, z⟩, let ⟨o, v, x, y, z⟩ := h.fc; ⟨o, v, sub _ x, y, z.sub sub⟩, let ⟨e, n, t, x, y⟩ := h.fi; ⟨e, n, t, sub _ x, y⟩⟩
section
variable {c : Cx} {m : Loc} {Φ : Led} {Q : Flow → Loc → Led → Led → Prop} {fa : Addr} {cd : Value}
theorem law_B1 {src Dr H : Addr} {rows : List Cell} {M : Led} (hn : 20 ≤ c.n) (A : LA c Φ src Dr H rows)
    (h : ∀ m' Φ' Ad us n, (∀ p ∈ Φ, p ∈ Φ') → (Ad, lo us n) ∈ Φ' → DatAll Φ' us (rows.map Cell.out) → Locs m' [("ahead", .ref Ad)] → EW c (execs (lawBody.drop 5) (lawEnv c.L fa cd)) m' M Φ' Q) :
    EW c (execs (lawBody.drop 4) (lawEnv c.L fa cd)) m M Φ Q := by
  obtain ⟨c1, hk1, dk1⟩ := A.k1
  obtain ⟨c2, hk2, dk2⟩ := A.k2
  obtain ⟨c3, hk3, dk3⟩ := A.k3
  obtain ⟨us, nu, hl, hlen, get⟩ := A.rowsAt.get
  have hmany := A.wf.many
  refine execs_cons (EW.mono (Q := fun f m' M' Φ' => f = .next ∧ M' = M ∧ (∀ p ∈ Φ, p ∈ Φ') ∧ ∃ A us n, (A, lo us n) ∈ Φ' ∧ DatAll Φ' us (rows.map Cell.out) ∧ Locs m' [("ahead", .ref A)]) ?_ ?_)
  · refine AssignComp_ (cl := [("heap", c.L + 3)]) rfl ?_ (by with_unfolding_all rfl) (by with_unfolding_all rfl) (by with_unfolding_all decide) (by with_unfolding_all rfl) (by with_unfolding_all decide) (by with_unfolding_all rfl) (by with_unfolding_all rfl) (by with_unfolding_all rfl)
    walk_at "w"
    refine lenL (mem_led hl) LO.lo (by omega) fun _ => ?_
    walk_at "w"
    refine newR fun r oR t1 u1 v1 hr => ?_
    obtain ⟨q1, q2⟩ := small1 (b := (us.length : Nat)) (by omega) (by omega)
    rw [Int.toNat_natCast] at q2
    have hsrc : Source c ((r, oR) :: Φ) (.ref r) us.length _ := .range (.head _) hr q1 q2 (by omega)
    clear q1 q2 hr
    refine ⟨rfl, us.length, _, fun j ys M₂ Φ₂ => M₂ = M ∧ (∀ p ∈ Φ, p ∈ Φ₂) ∧ DatAll Φ₂ ys ((rows.take j).map Cell.out), hsrc, ⟨?_, ?_⟩, ?_⟩
    · exact ⟨rfl, fun p hp => .tail _ hp, by rw [List.take_zero]; exact .nil⟩
    · rintro j v ys M₂ Φ₂ I oI C oC E m₂ hj ⟨tv, rfl⟩ sub₂ ⟨rfl, sub₃, hys⟩ hC hx
      have hj2 : j < rows.length := by omega
      have hcj : rows[j]? = some rows[j] := List.getElem?_eq_getElem hj2
      have htk : (rows.take (j + 1)).map Cell.out = (rows.take j).map Cell.out ++ [rows[j].out] := by rw [List.take_add_one, hcj, List.map_append]; rfl
      have hvl := A.wf.vals j _ hcj
      have hk3' := sub₃ _ hk3
      generalize rows[j] = cell at hcj htk hvl
      walk_at "w"
      refine old_meth (A.old.sub sub₃) (by k_is) (by k_is) (by k_is) ?_
      walk_at "w"
      refine old_get (by omega) (A.old.sub sub₃) hcj fun u hu => ?_
      walk_at "w"
      refine law_row (by omega) hu (by omega) fun u' Φ'' sub'' du => ?_
      exact ⟨rfl, _, rfl, rfl, fun p hp => sub'' p (sub₃ p hp), by rw [htk]; exact (hys.mono sub'').append (.one du)⟩
    · rintro ys M₂ Φ₂ E sub₂ ⟨rfl, sub₃, hys⟩
      rw [hlen, List.take_length] at hys
      exact ⟨rfl, rfl, fun p hp => .tail _ (sub₃ p hp), E, ys, _, .head _, hys.mono fun p hp => .tail _ hp, by walk_at "lk", trivial⟩
  rintro f m₁ M₁ Φ₁ _ ⟨rfl, rfl, sub₁, Ad, as, na, hA, hAd, hL⟩
  exact h m₁ Φ₁ Ad as na sub₁ hA hAd hL
end

end

section
-- part lawB2
local macro_rules | `(tactic| walk_at "mem") => `(tactic| first
  | assumption
  | exact List.Mem.head _
  | (refine List.Mem.tail _ ?_; walk_at "mem"))
local macro_rules | `(tactic| walk_at "nm") => `(tactic| first
  | ((with_reducible show EW _ (eval (Expr.Name _ _) (compEnvC _ _ _ _)) _ _ _ _); first
    | (with_reducible refine nCL (List.mem_append_left _ (List.Mem.tail _ (List.Mem.head _))) (by assumption) (by assumption) ?_)
    | ((with_reducible refine' nCC ?hc (List.mem_append_right _ ?hm) ?hd ?_); (case hc => with_unfolding_all rfl); (case hm => walk_at "mem"); (case hd => assumption)))
  | ((with_reducible show EW _ (eval (Expr.Name _ _) _) _ _ _ _);
     ((with_reducible refine' nC ?hc (List.mem_append_right _ ?hm) ?hd ?_); (case hc => with_unfolding_all rfl); (case hm => walk_at "mem"); (case hd => assumption))))
section
variable {c : Cx} {m : Loc} {Φ : Led} {Q : Flow → Loc → Led → Led → Prop} {fa : Addr} {cd : Value}
theorem law_B2 {src Dr H Ad : Addr} {so o4 : Obj} {rows : List Cell} (hn : 20 ≤ c.n) (A : LA c Φ src Dr H rows) (hso : SrcOk so) (hL : Locs m [("ahead", .ref Ad)])
    (h : ∀ m' Φ' Rd rs n roots, (∀ p ∈ Φ, p ∈ Φ') → (Rd, lo rs n) ∈ Φ' → IntL rs roots → roots.length ≤ 4 → (∀ a ∈ roots, a < rows.length) → Locs m' [("ahead", .ref Ad), ("roots", .ref Rd)] → EW c (execs (lawBody.drop 6) (lawEnv c.L fa cd)) m' [(c.L + 4, o4)] Φ' Q) :
    EW c (execs (lawBody.drop 5) (lawEnv c.L fa cd)) m [(src, so), (c.L + 4, o4)] Φ Q := by
  obtain ⟨c1, hk1, dk1⟩ := A.k1
  obtain ⟨c2, hk2, dk2⟩ := A.k2
  obtain ⟨us, nu, hl, hlen, get⟩ := A.rowsAt.get
  have hmany := A.wf.many
  have hpos := A.pos
  refine execs_cons (EW.mono (Q := fun f m' M' Φ' => f = .next ∧ (∀ p ∈ Φ, p ∈ Φ') ∧ ∃ so' Rd rs n roots, M' = [(src, so'), (c.L + 4, o4)] ∧ (Rd, lo rs n) ∈ Φ' ∧ IntL rs roots ∧ roots.length ≤ 4 ∧ (∀ a ∈ roots, a < rows.length) ∧ Locs m' [("ahead", .ref Ad), ("roots", .ref Rd)]) ?_ ?_)
  · refine AssignComp_ (cl := [("source", c.L + 1), ("rows", c.L + 2)]) rfl ?_ (by with_unfolding_all rfl) (by with_unfolding_all rfl) (by with_unfolding_all decide) (by with_unfolding_all rfl) (by with_unfolding_all decide) (by with_unfolding_all rfl) (by with_unfolding_all rfl) (by with_unfolding_all rfl)
    walk_at "w"
    refine take_spec (i := 0) (by omega) rfl hso (by decide) (by decide) fun d td so₁ hd0 hd1 hso₁ => ?_
    walk_at "w"
    refine newR fun r oR t1 u1 v1 hr => ?_
    obtain ⟨q1, q2⟩ := small1 (b := d) (by omega) (by omega)
    have hsrc : Source c ((r, oR) :: Φ) (.ref r) d.toNat _ := .range (.head _) hr q1 q2 (by omega)
    clear q1 q2 hr
    refine ⟨rfl, d.toNat, _, fun j ys M₂ Φ₂ => (∀ p ∈ Φ, p ∈ Φ₂) ∧ ∃ so' roots, M₂ = [(src, so'), (c.L + 4, o4)] ∧ SrcOk so' ∧ IntL ys roots ∧ roots.length = j ∧ (∀ a ∈ roots, a < rows.length), hsrc, ⟨?_, ?_⟩, ?_⟩
    · exact ⟨fun p hp => .tail _ hp, so₁, [], rfl, hso₁, IntL.nil, rfl, fun a ha => nomatch ha⟩
    · rintro j v ys M₂ Φ₂ I oI C oC E m₂ hj ⟨tv, rfl⟩ sub₂ ⟨sub₃, so', roots, rfl, hso', hys, hrl, hrt⟩ hC hx
      have hk1' := sub₃ _ hk1
      have hk2' := sub₃ _ hk2
      walk_at "w"
      refine lenL (mem_led (sub₃ _ hl)) LO.lo (by omega) fun _ => ?_
      walk_at "w"
      refine take_spec (i := 3) (by omega) rfl hso' (by omega) (by omega) fun x tx so₂ hx0 hx1 hso₂ => ?_
      obtain ⟨x, rfl⟩ : ∃ y : Nat, x = y := ⟨x.toNat, by omega⟩
      refine ⟨rfl, [(src, so₂), (c.L + 4, o4)], rfl, sub₃, so₂, roots ++ [x], rfl, hso₂, hys.snoc x tx, by simp; omega, fun a ha => ?_⟩
      rcases List.mem_append.mp ha with ha | ha
      · exact hrt a ha
      · rw [List.mem_singleton.mp ha]; omega
    · rintro ys M₂ Φ₂ E sub₂ ⟨sub₃, so', roots, rfl, hso', hys, hrl, hrt⟩
      exact ⟨rfl, fun p hp => .tail _ (sub₃ p hp), so', E, ys, _, roots, rfl, .head _, hys, by omega, hrt, by walk_at "lk", by walk_at "lk", trivial⟩
  rintro f m₁ M₁ Φ₁ _ ⟨rfl, sub₁, so', Rd, rs, n, roots, rfl, hR, hrs, hrl, hrt, hL'⟩
  refine EW.frozen ?_
  exact h m₁ _ Rd rs n roots (fun p hp => .tail _ (sub₁ p hp)) (.tail _ hR) hrs hrl hrt hL'

theorem law_B3 {Ad Rd : Addr} {rs : List Value} {n : Nat} {roots : List Nat} {M : Led} (hR : (Rd, lo rs n) ∈ Φ) (hrs : IntL rs roots) (hrl : roots.length ≤ 4) (hL : Locs m [("ahead", .ref Ad), ("roots", .ref Rd)])
    (h : ∀ m' Φ' Td ts n, (∀ p ∈ Φ, p ∈ Φ') → (Td, lo ts n) ∈ Φ' → DatAll Φ' ts ((roots.map V.at ++ [V.int 7]).map V.dat) → Locs m' [("ahead", .ref Ad), ("roots", .ref Rd), ("told", .ref Td)] → EW c (execs (lawBody.drop 7) (lawEnv c.L fa cd)) m' M Φ' Q) :
    EW c (execs (lawBody.drop 6) (lawEnv c.L fa cd)) m M Φ Q := by
  have hrl' := hrs.length
  refine execs_cons (EW.mono (Q := fun f m' M' Φ' => f = .next ∧ M' = M ∧ (∀ p ∈ Φ, p ∈ Φ') ∧ ∃ Td ts n, (Td, lo ts n) ∈ Φ' ∧ DatAll Φ' ts ((roots.map V.at ++ [V.int 7]).map V.dat) ∧ Locs m' [("ahead", .ref Ad), ("roots", .ref Rd), ("told", .ref Td)]) ?_ ?_)
  · refine Assign_ ?_
    refine BinOp_ ?_
    refine EW.mono (Q := fun v m' M' Φ' => m' = m ∧ M' = M ∧ (∀ p ∈ Φ, p ∈ Φ') ∧ ∃ D us n, v = .ref D ∧ (D, lo us n) ∈ Φ' ∧ DatAll Φ' us ((roots.map V.at).map V.dat)) ?_ ?_
    · refine Comp_ (cl := []) ?_ (by with_unfolding_all rfl) (by with_unfolding_all decide) (by with_unfolding_all rfl) (by with_unfolding_all decide) (by with_unfolding_all rfl)
      walk_at "w"
      refine ⟨rfl, rs.length, _, fun j ys M₂ Φ₂ => M₂ = M ∧ (∀ p ∈ Φ, p ∈ Φ₂) ∧ DatAll Φ₂ ys (((roots.take j).map V.at).map V.dat), .list ⟨_, LO.lo, .inl hR⟩ (by omega), ⟨?_, ?_⟩, ?_⟩
      · exact ⟨rfl, fun p hp => hp, by rw [List.take_zero]; exact .nil⟩
      · rintro j v ys M₂ Φ₂ I oI C oC E m₂ hj hv sub₂ ⟨rfl, sub₃, hys⟩ hC hx
        obtain ⟨a, ta, ha, rfl⟩ := hrs.get' hv
        have htk : ((roots.take (j + 1)).map V.at).map V.dat = ((roots.take j).map V.at).map V.dat ++ [(V.at a).dat] := by rw [List.take_add_one, ha, List.map_append, List.map_append]; rfl
        walk_at "w"
        refine newT (szl (by simp)) fun Z hZ => ?_
        exact ⟨rfl, _, rfl, rfl, fun p hp => .tail _ (sub₃ p hp), by rw [htk]; exact (hys.mono fun p hp => .tail _ hp).append (.one (.tuple (.head _) (.cons (.str _ _) (.cons (.int _ _) .nil))))⟩
      · rintro ys M₂ Φ₂ E sub₂ ⟨rfl, sub₃, hys⟩
        rw [hrl', List.take_length] at hys
        exact ⟨rfl, rfl, fun p hp => .tail _ (sub₃ p hp), E, ys, _, rfl, .head _, hys.mono fun p hp => .tail _ hp⟩
    rintro v m' M' Φ' _ ⟨rfl, rfl, sub', D, us, nu, rfl, hD, hus⟩
    have hul := hus.length
    rw [List.length_map, List.length_map] at hul
    walk_at "w"
    refine newT (szl (by simp)) fun Z hZ => ?_
    walk_at "w"
    refine newL (szl (by simp)) fun Y hY => ?_
    refine addL (mem_led (.tail _ (.tail _ hD))) LO.lo (mem_led (.head _)) LO.lo (by simp; omega) fun T hT => ?_
    refine EW.frozen ?_
    walk_at "w"
    refine ⟨rfl, rfl, fun p hp => .tail _ (.tail _ (.tail _ (sub' p hp))), T, us ++ [.ref Z], 0, .head _, ?_, by walk_at "lk", by walk_at "lk", by walk_at "lk", trivial⟩
    rw [List.map_append]
    exact (hus.mono fun p hp => .tail _ (.tail _ (.tail _ hp))).append (.one (.tuple (.tail _ (.tail _ (.head _))) (.cons (.str _ _) (.cons (.int _ _) .nil))))
  rintro f m₁ M₁ Φ₁ _ ⟨rfl, rfl, sub₁, Td, ts, nt, hT, hts, hL'⟩
  exact h m₁ Φ₁ Td ts nt sub₁ hT hts hL'

theorem refs_told (roots : List Nat) : (roots.map V.at ++ [V.int 7]).flatMap V.refs = roots := by
  induction roots with
  | nil => rfl
  | cons a r ih => rw [List.map_cons, List.cons_append, List.flatMap_cons, ih]; rfl
theorem map_int_inj {a b : List Nat} (h : a.map (fun n => Dat.int (n : Nat)) = b.map (fun n => Dat.int (n : Nat))) : a = b := by
  induction a generalizing b with
  | nil => cases b with
    | nil => rfl
    | cons => simp at h
  | cons x a ih => cases b with
    | nil => simp at h
    | cons y b =>
      simp only [List.map_cons, List.cons.injEq, Dat.int.injEq] at h
      rw [ih h.2]
      have : x = y := by omega
      rw [this]

theorem law_B4 {Ad Rd Td : Addr} {rs ts : List Value} {n nt : Nat} {roots : List Nat} {M : Led} (hn : 20 ≤ c.n) (hR : (Rd, lo rs n) ∈ Φ) (hrs : IntL rs roots) (hrl : roots.length ≤ 4) (hT : (Td, lo ts nt) ∈ Φ) (hts : DatAll Φ ts ((roots.map V.at ++ [V.int 7]).map V.dat))
    (hL : Locs m [("ahead", .ref Ad), ("roots", .ref Rd), ("told", .ref Td)])
    (h : ∀ Φ', (∀ p ∈ Φ, p ∈ Φ') → EW c (execs (lawBody.drop 8) (lawEnv c.L fa cd)) m M Φ' Q) :
    EW c (execs (lawBody.drop 7) (lawEnv c.L fa cd)) m M Φ Q := by
  refine execs_cons (EW.mono (Q := fun f m' M' Φ' => f = .next ∧ m' = m ∧ M' = M ∧ (∀ p ∈ Φ, p ∈ Φ')) ?_ ?_)
  · walk_at "w"
    refine values_roots (by omega) hT hts (by simp; omega) fun D ds nd Φ' sub hD hds => ?_
    rw [refs_told] at hds
    walk_at "w"
    refine dNe (n₁ := Φ') (n₂ := Φ') (.list hD (hds.dat _)) (fun p hp => mem_led hp) (.list (sub _ hR) (hrs.dat _)) (fun p hp => mem_led hp) (by show (roots.map _).all (kqdOk 8) = true; simp [kqdOk]) (by show (roots.map _).all (kqdOk 8) = true; simp [kqdOk]) fun b hb => ?_
    obtain rfl : b = false := by
      cases b with
      | false => rfl
      | true => exact absurd rfl (hb.mp rfl)
    walk_at "w"
    exact ⟨rfl, rfl, rfl, sub⟩
  rintro f m₁ M₁ Φ₁ _ ⟨rfl, rfl, rfl, sub₁⟩
  exact h Φ₁ sub₁
end

end

section
-- part lawC
local macro_rules | `(tactic| walk_at "mem") => `(tactic| first
  | assumption
  | exact List.Mem.head _
  | (refine List.Mem.tail _ ?_; walk_at "mem"))
local macro_rules | `(tactic| walk_at "nm") => `(tactic| first
  | ((with_reducible show EW _ (eval (Expr.Name _ _) (compEnvC _ _ _ _)) _ _ _ _); first
    | (with_reducible refine nCL (List.mem_append_left _ (List.Mem.tail _ (List.Mem.head _))) (by assumption) (by assumption) ?_)
    | ((with_reducible refine' nCC ?hc (List.mem_append_right _ ?hm) ?hd ?_); (case hc => with_unfolding_all rfl); (case hm => walk_at "mem"); (case hd => assumption)))
  | ((with_reducible show EW _ (eval (Expr.Name _ _) _) _ _ _ _);
     ((with_reducible refine' nC ?hc (List.mem_append_right _ ?hm) ?hd ?_); (case hc => with_unfolding_all rfl); (case hm => walk_at "mem"); (case hd => assumption))))
section
variable {c : Cx} {m : Loc} {Φ : Led} {Q : Flow → Loc → Led → Led → Prop} {fa : Addr} {cd : Value}
theorem law_C {src Dr H Ad Rd Td : Addr} {o4 : Obj} {rows : List Cell} {as rs ts : List Value} {na n nt : Nat} {roots : List Nat} (hn : 20 ≤ c.n) (A : LA c Φ src Dr H rows) (d4 : o4.data = .cell none)
    (hA : (Ad, lo as na) ∈ Φ) (has : DatAll Φ as (rows.map Cell.out)) (hR : (Rd, lo rs n) ∈ Φ) (hrs : IntL rs roots) (hrl : roots.length ≤ 4) (hrt : ∀ a ∈ roots, a < rows.length) (hT : (Td, lo ts nt) ∈ Φ) (hts : DatAll Φ ts ((roots.map V.at ++ [V.int 7]).map V.dat))
    (hL : Locs m [("ahead", .ref Ad), ("roots", .ref Rd), ("told", .ref Td)])
    (h : ∀ m' Φ' (k : Col) S, LB c Φ' src Dr H rows roots S k Ad Rd Td → Locs m' [("ahead", .ref Ad), ("roots", .ref Rd), ("told", .ref Td), ("fresh", .ref k.F)] → EW c (execs (lawBody.drop 9) (lawEnv c.L fa cd)) m' [] Φ' Q) :
    EW c (execs (lawBody.drop 8) (lawEnv c.L fa cd)) m [(c.L + 4, o4)] Φ Q := by
  obtain ⟨c3, hk3, dk3⟩ := A.k3
  refine execs_cons (EW.mono (Q := fun f m' M' Φ' => f = .next ∧ (∀ p ∈ Φ, p ∈ Φ') ∧ ∃ (k : Col) (S : St) (M4 : Led) (o : Obj), M' = M4 ++ [(c.L + 4, o)] ∧ o.data = .cell (some (.ref k.mv)) ∧ Done rows roots S ∧ k.Fix Φ' ∧ ColM c.w k rows S Φ' M4 ∧ Locs m' [("ahead", .ref Ad), ("roots", .ref Rd), ("told", .ref Td), ("fresh", .ref k.F)]) ?_ ?_)
  · walk_at "w"
    refine collected (by omega) A.old A.wf hrt hR hrs fun k S M4 Φ' T sub hd hk hM hT' => ?_
    refine ⟨T, _, _, _, rfl, mem_led hT', TO.tp, ?_⟩
    walk_at "w"
    obtain ⟨vs, n, om, oc, kvm, kvc, es, ne, tn, e4, hvs, dm, hm, dc, hc, hF⟩ := hM.ex
    have hM' := hM
    subst e4
    refine sC (i := 4) (by with_unfolding_all rfl) rfl d4 fun o' hd' => ?_
    exact ⟨rfl, sub, k, S, _, o', rfl, hd', hd, hk, hM', by walk_at "lk", by walk_at "lk", by walk_at "lk", by walk_at "lk", trivial⟩
  rintro f m₁ M₁ Φ₁ _ ⟨rfl, sub₁, k, S, M4, o4', rfl, d4', hd, hk, hM, hL'⟩
  obtain ⟨vs, nv, om, oc, kvm, kvc, es, ne, tn, e4, hvs, dm, hm, dc, hc, hF⟩ := hM.ex
  subst e4
  refine EW.frozen (EW.frozen (EW.frozen (EW.frozen (EW.frozen ?_))))
  have sub₂ : ∀ p ∈ Φ₁, p ∈ (c.L + 4, o4') :: (k.fi, dictOf es ne) :: (k.fc, oc) :: (k.mv, om) :: (k.wt, lo vs nv) :: Φ₁ := fun p hp => .tail _ (.tail _ (.tail _ (.tail _ (.tail _ hp))))
  have sub₃ := fun p hp => sub₂ p (sub₁ p hp)
  exact h m₁ _ k S ⟨A.sub sub₃, hrt, hrl, hd, hk.sub sub₂, ⟨as, na, sub₃ _ hA, has.mono sub₃⟩, ⟨rs, n, sub₃ _ hR, hrs⟩, ⟨ts, nt, sub₃ _ hT, hts.mono sub₃⟩, ⟨o4', .head _, d4'⟩, ⟨om, kvm, .tail _ (.tail _ (.tail _ (.head _))), dm, hm⟩, ⟨oc, kvc, .tail _ (.tail _ (.head _)), dc, hc.sub sub₂⟩, ⟨es, ne, tn, .tail _ (.head _), hF⟩⟩ hL'

theorem law_D1 {src Dr H Ad Rd Td : Addr} {rows : List Cell} {roots : List Nat} {S : St} {k : Col} (hn : 20 ≤ c.n) (B : LB c Φ src Dr H rows roots S k Ad Rd Td)
    (hL : Locs m [("ahead", .ref Ad), ("roots", .ref Rd), ("told", .ref Td), ("fresh", .ref k.F)])
    (h : ∀ m' Φ' Mt ms nm met, (∀ p ∈ Φ, p ∈ Φ') → (Mt, lo ms nm) ∈ Φ' → IntL ms met → met.Nodup → (∀ a, a ∈ met ↔ Reach rows roots a) → Locs m' [("ahead", .ref Ad), ("roots", .ref Rd), ("told", .ref Td), ("fresh", .ref k.F), ("met", .ref Mt)] → EW c (execs (lawBody.drop 10) (lawEnv c.L fa cd)) m' [] Φ' Q) :
    EW c (execs (lawBody.drop 9) (lawEnv c.L fa cd)) m [] Φ Q := by
  obtain ⟨c2, hk2, dk2⟩ := B.la.k2
  obtain ⟨rs, n, hR, hrs⟩ := B.rts
  have hrn := B.rn
  refine execs_cons (EW.mono (Q := fun f m' M' Φ' => f = .next ∧ M' = [] ∧ (∀ p ∈ Φ, p ∈ Φ') ∧ ∃ Mt ms nm met, (Mt, lo ms nm) ∈ Φ' ∧ IntL ms met ∧ met.Nodup ∧ (∀ a, a ∈ met ↔ Reach rows roots a) ∧ Locs m' [("ahead", .ref Ad), ("roots", .ref Rd), ("told", .ref Td), ("fresh", .ref k.F), ("met", .ref Mt)]) ?_ ?_)
  · walk_at "w"
    refine law_reached (by omega) B.la.rowsAt B.la.wf hR hrs B.rl (by omega) fun Mt ms nm met Φ' sub hM hms hnd hiff => ?_
    walk_at "w"
    exact ⟨rfl, rfl, sub, Mt, ms, nm, met, hM, hms, hnd, hiff, by walk_at "lk", by walk_at "lk", by walk_at "lk", by walk_at "lk", by walk_at "lk", trivial⟩
  rintro f m₁ M₁ Φ₁ _ ⟨rfl, rfl, sub₁, Mt, ms, nm, met, hM, hms, hnd, hiff, hL'⟩
  exact h m₁ Φ₁ Mt ms nm met sub₁ hM hms hnd hiff hL'

theorem ends_snoc {rows : List Cell} {met : List Nat} {j a : Nat} (h : met[j]? = some a) : endsOf rows (met.take (j + 1)) = endsOf rows (met.take j) ++ (if (rows.getD a .ho).isLi = true then [] else [a]) := by
  unfold endsOf
  rw [List.take_add_one, h, List.filter_append]
  show _ ++ List.filter (fun a => !(rows.getD a .ho).isLi) [a] = _
  rw [List.filter_cons, List.filter_nil]
  generalize (rows.getD a .ho).isLi = b
  cases b <;> rfl

theorem law_D2 {src Dr H Ad Rd Td Mt : Addr} {rows : List Cell} {roots met : List Nat} {S : St} {k : Col} {ms : List Value} {nm : Nat} (hn : 20 ≤ c.n) (B : LB c Φ src Dr H rows roots S k Ad Rd Td)
    (hM : (Mt, lo ms nm) ∈ Φ) (hms : IntL ms met) (hnd : met.Nodup) (hiff : ∀ a, a ∈ met ↔ Reach rows roots a)
    (hL : Locs m [("ahead", .ref Ad), ("roots", .ref Rd), ("told", .ref Td), ("fresh", .ref k.F), ("met", .ref Mt)])
    (h : ∀ m' Φ' Et es ne, (∀ p ∈ Φ, p ∈ Φ') → (Et, lo es ne) ∈ Φ' → IntL es (endsOf rows met) → Locs m' [("ahead", .ref Ad), ("roots", .ref Rd), ("told", .ref Td), ("fresh", .ref k.F), ("met", .ref Mt), ("ends", .ref Et)] → EW c (execs (lawBody.drop 11) (lawEnv c.L fa cd)) m' [] Φ' Q) :
    EW c (execs (lawBody.drop 10) (lawEnv c.L fa cd)) m [] Φ Q := by
  obtain ⟨c2, hk2, dk2⟩ := B.la.k2
  obtain ⟨us, nu, hl, hlen, get⟩ := B.la.rowsAt.get
  have hmany := B.la.wf.many
  have hml := hms.length
  have hmm := nodup_le hnd fun a ha => ((hiff a).mp ha).lt B.la.wf B.rl
  refine execs_cons (EW.mono (Q := fun f m' M' Φ' => f = .next ∧ M' = [] ∧ (∀ p ∈ Φ, p ∈ Φ') ∧ ∃ Et es ne, (Et, lo es ne) ∈ Φ' ∧ IntL es (endsOf rows met) ∧ Locs m' [("ahead", .ref Ad), ("roots", .ref Rd), ("told", .ref Td), ("fresh", .ref k.F), ("met", .ref Mt), ("ends", .ref Et)]) ?_ ?_)
  · refine AssignCompT_ (cl := [("rows", c.L + 2)]) rfl ?_ (by with_unfolding_all rfl) (by with_unfolding_all rfl) (by with_unfolding_all decide) (by with_unfolding_all rfl) (by with_unfolding_all decide) (by with_unfolding_all rfl) (by with_unfolding_all rfl) (by with_unfolding_all rfl)
    walk_at "w"
    refine ⟨rfl, ms.length, _, fun j ys M₂ Φ₂ => M₂ = [] ∧ (∀ p ∈ Φ, p ∈ Φ₂) ∧ IntL ys (endsOf rows (met.take j)), .list ⟨_, LO.lo, .inl hM⟩ (by omega), ⟨?_, ?_⟩, ?_⟩
    · exact ⟨rfl, fun p hp => hp, by rw [List.take_zero]; exact IntL.nil⟩
    · rintro j v ys M₂ Φ₂ I oI C oC E m₂ hj hv sub₂ ⟨rfl, sub₃, hys⟩ hC hx
      obtain ⟨a, ta, ha, rfl⟩ := hms.get' hv
      have hal : a < rows.length := ((hiff a).mp (List.mem_of_getElem? ha)).lt B.la.wf B.rl
      have hca : rows[a]? = some rows[a] := List.getElem?_eq_getElem hal
      have htk := ends_snoc (rows := rows) ha
      have hgd : rows.getD a .ho = rows[a] := by simp [List.getD, hca]
      rw [hgd] at htk
      obtain ⟨v', d, hv', hd, hrow⟩ := get _ _ hca
      have hk2' := sub₃ _ hk2
      generalize rows[a] = cell at hrow htk
      have hd := hd.mono sub₃
      cases hrow with
      | @li b =>
        obtain ⟨T, oT, v₁, v₂, v₃, rfl, hmT, hoT, d₁, d₂, d₃⟩ := tup3 hd
        obtain ⟨t₁, rfl⟩ := dStr d₁
        walk_at "w"
        refine yL (mem_led (sub₃ _ hl)) LO.lo (by omega) (by omega) (by simpa using hv') ?_
        walk_at "w"
        refine yT (mem_led hmT) hoT (by decide) (by decide) rfl ?_
        walk_at "w"
        exact ⟨rfl, _, rfl, rfl, sub₃, by rw [htk]; simpa [Cell.isLi] using hys⟩
      | _ =>
        obtain ⟨T, oT, v₁, v₂, v₃, rfl, hmT, hoT, d₁, d₂, d₃⟩ := tup3 hd
        obtain ⟨t₁, rfl⟩ := dStr d₁
        walk_at "w"
        refine yL (mem_led (sub₃ _ hl)) LO.lo (by omega) (by omega) (by simpa using hv') ?_
        walk_at "w"
        refine yT (mem_led hmT) hoT (by decide) (by decide) rfl ?_
        walk_at "w"
        refine ⟨rfl, _, rfl, rfl, sub₃, ?_⟩
        rw [htk]
        exact hys.snoc a ta
    · rintro ys M₂ Φ₂ E sub₂ ⟨rfl, sub₃, hys⟩
      rw [hml, List.take_length] at hys
      exact ⟨rfl, rfl, fun p hp => .tail _ (sub₃ p hp), E, ys, _, .head _, hys, by walk_at "lk", by walk_at "lk", by walk_at "lk", by walk_at "lk", by walk_at "lk", by walk_at "lk", trivial⟩
  rintro f m₁ M₁ Φ₁ _ ⟨rfl, rfl, sub₁, Et, es, ne, hE, hes, hL'⟩
  exact h m₁ Φ₁ Et es ne sub₁ hE hes hL'
end

end

section
-- part LzDictP
theorem miss_keys : typeLookup (.type "list") "keys" = Pure.pure none := am_miss_of_fast (by kernel_rfl)
section
variable {prog : PySem.Program} {w : World} {A : Around} {E : Value → Shared → Prop} {s : Shared}
theorem keys_miss {a : Addr} {o : Obj} {xs : Array Value} {k : Nat} {Q : Option Value → Shared → Prop}
    (hx : s.heap.get? a = some o) (hc : o.cls = .type "list") (hdat : o.data = .seq xs k) (hd : o.dict = none) (hA : A.handled = none)
    (h : ∀ h' tk, (∀ b o, s.heap.get? b = some o → h'.get? b = some o) → Q none { s with heap := h', toks := tk }) :
    wpAny (model prog w) A (getAttr? (.ref a) "keys") Q E s := by
  obtain ⟨c, dct, dat, sl⟩ := o
  simp only at hc hdat hd
  subst hc hdat hd
  obtain ⟨hp, g, d, tk, os⟩ := s
  have hT : ∀ tk', (⟨hp, g, d, tk', os⟩ : Shared).TypeIs (.ref a) "list" := fun _ => ⟨_, hx, rfl⟩
  have f1 := sub_AttributeError
  have f3 := F.slot_list_getattribute.lookup
  have f4 := F.slot_list_getattribute.bind (.ref a)
  have f5 := am_list_getattr_none
  unfold getAttr? getAttrBy? getAttrBy
  repeat (any_goals (first | assumption | exact hT _ | ((with_reducible show wpAny _ _ (call (Value.builtin "list.__getattribute__") _ _) _ _ _); refine call_meets F.slot_list_getattribute (hT _) am_entry_list_getattribute (F.args_list_getattribute_2 _ _) (meets_getattribute_miss_list a xs k sl "keys" _ miss_keys (by decide) (by rw [sizeLine_eq]; decide)) ⟨hx, hA, fun h' tk' e hx' => ?_⟩) | wp_step))
  obtain ⟨t', u', he⟩ := hx'.there
  show wpAny _ _ (getattributeRaised _ _ _ _ _ _ _) _ _ _
  unfold getattributeRaised
  repeat (any_goals (first | assumption | wp_step))
  exact h _ _ hx'.keeps

theorem entry_upd_loop : entryFor table "dict.update.loop" = some Builtin.«dict.update.loop» := entryFor_of_fast (by kernel_rfl)
theorem plain_upd_loop : plainId "dict.update.loop" = true := by decide +kernel

def foldS (kvs acc : List (Int × Value)) : List (Int × Value) := kvs.foldl (fun acc p => stored acc p.1 p.2) acc

theorem pairs_loop {w : World} {d I l : Addr} {s₀ : Shared} {kvs : List (Int × Value)} {items : Array Value} {St : Nat → Heap → Prop} {R : Result → Shared → Prop}
    (W : Walks prg w A.in1 I [I, l] [I] items.size (fun i v => items[i]? = some v) St) (hdI : d ≠ I) (hdl : d ≠ l) (hn : items.size = kvs.length) (hz : kvs.length ≤ 2 ^ 20)
    (hit : ∀ (i : Nat) (v : Value), items[i]? = some v → ∃ (T : Addr) (k : Int) (tk : Tok) (u : Value), v = .ref T ∧ kvs[i]? = some (k, u) ∧ T ≠ I ∧ T ≠ d ∧ IsTup s₀.heap T #[.int k tk, u]) :
    ∀ (n i : Nat) (h : Heap) (tk : Nat) (acc : List (Int × Value)), kvs.length - i = n → i ≤ kvs.length → St i h → h.DictOf (intKind prg w) d acc → acc.length ≤ i →
      (∀ b o, b ≠ I → b ≠ d → s₀.heap.get? b = some o → h.get? b = some o) →
      (∀ h' tk', h'.DictOf (intKind prg w) d (foldS (kvs.drop i) acc) → (∀ b o, b ≠ I → b ≠ d → s₀.heap.get? b = some o → h'.get? b = some o) → R (.ok (.ret .none)) { s₀ with heap := h', toks := tk' }) →
      codeAny (model prg w) A (.builtin "dict.update.loop" ⟨[.ref d, .ref I, rawInt i, .none], []⟩) R { s₀ with heap := h, toks := tk } := by
  intro n
  induction n with
  | zero =>
    intro i h tk acc hk hi hst hd hlen keep hR
    have hin : i = items.size := by omega
    refine codeAny_builtin entry_upd_loop ?_
    rw [Around.under_plainId plain_upd_loop _]
    show wpAny _ A.in1 (pyNext (.ref I) >>= _) _ _ _
    refine wpAny_bind (W.done { s₀ with heap := h, toks := tk } _ _ (hin ▸ hst) fun h' tk' hk' => ?_)
    show wpAny _ A.in1 (Pure.pure () >>= _) _ _ _
    refine wpAny_bind (wpAny_pure ?_)
    refine wpAny_pure (hR h' tk' ?_ fun b o hb hbd e => hk' b o (by simpa using hb) (keep b o hb hbd e))
    have e : foldS (kvs.drop i) acc = acc := by rw [List.drop_eq_nil_of_le (by omega)]; rfl
    rw [e]
    obtain ⟨o, ho, hd'⟩ := Heap.dictOf_iff.mp hd
    exact Heap.dictOf_iff.mpr ⟨o, hk' d o (by simpa using hdI) ho, hd'⟩
  | succ n ih =>
    intro i h tk acc hk hi hst hd hlen keep hR
    have hlt : i < items.size := by omega
    refine codeAny_builtin entry_upd_loop ?_
    rw [Around.under_plainId plain_upd_loop _]
    show wpAny _ A.in1 (pyNext (.ref I) >>= _) _ _ _
    refine wpAny_bind (W.item i { s₀ with heap := h, toks := tk } _ _ hlt hst fun v h₁ tk₁ hP hst₁ hk₁ => ?_)
    obtain ⟨T, k, tk2, u, rfl, hkv, hTI, hTd, hT⟩ := hit i v hP
    obtain ⟨oT, hoT, hcT, nT, hdT⟩ := hT
    have hT₁ : h₁.get? T = some oT := hk₁ T oT (by simpa using hTI) (keep T oT hTI hTd hoT)
    have hd₁ : h₁.DictOf (intKind prg w) d acc := by
      obtain ⟨o, ho, hd'⟩ := Heap.dictOf_iff.mp hd
      exact Heap.dictOf_iff.mpr ⟨o, hk₁ d o (by simpa using hdI) ho, hd'⟩
    refine wpAny_bind (wpAny_holding (wpAny_bind (wpAny_tryCatch ?_)))
    unfold Builtin.Dict.pairItems
    refine wpAny_bind (wpAny_typeOf_ref (s := { s₀ with heap := h₁, toks := tk₁ }) hT₁ ?_)
    rw [hcT]
    rw [if_pos (by decide)]
    refine wpAny_bind (wpAny_seqItems (s := { s₀ with heap := h₁, toks := tk₁ }) hT₁ hdT (wpAny_pure ?_))
    show wpAny (model prg w) A.in1 (holding [Value.int k tk2, u] (dictSet d (.int k tk2) u)) _ _ _
    refine wpAny_holding (wpAny_dictSet_pairs (knd := intKind prg w) (intKind_is prg w k tk2) hd₁ (fun h₂ hd₂ hs₂ => ?_) (by rw [sizeLine_eq]; omega))
    have hi : i < kvs.length := by omega
    refine wpAny_pure ⟨plainId_quiet plain_upd_loop _, ih (i + 1) h₂ _ (stored acc k u) (by omega) (by omega) (W.frame _ _ _ hst₁ fun b hb o e => ?_) hd₂ ?_ (fun b o hb hbd e => ?_) fun h' tk' hd' keep' => ?_⟩
    · have hbd : b ≠ d := by
        rcases List.mem_cons.mp hb with rfl | hb
        · exact Ne.symm hdI
        · rw [List.mem_singleton.mp hb]; exact Ne.symm hdl
      exact (hs₂.2 b hbd).trans e
    · have := stored_len (kvs := acc) (k := k) (v := u)
      omega
    · exact (hs₂.2 b hbd).trans (hk₁ b o (by simpa using hb) (keep b o hb hbd e))
    · refine hR h' tk' ?_ keep'
      have e : kvs.drop i = (k, u) :: kvs.drop (i + 1) := by
        rw [List.drop_eq_getElem_cons hi]
        rw [List.getElem?_eq_getElem hi] at hkv
        rw [Option.some.inj hkv]
      rw [e]
      exact hd'

theorem dict_pairs {w : World} {l : Addr} {o : Obj} {kvs : List (Int × Value)} {items : Array Value} {nl : Nat} {Q : Value → Shared → Prop} (hl : s.heap.get? l = some o) (hc : o.cls = .type "list") (hdat : o.data = .seq items nl) (hdict : o.dict = none) (hh : A.handled = none)
    (hn : items.size = kvs.length) (hz : kvs.length ≤ 2 ^ 20) (hit : ∀ (i : Nat) (v : Value), items[i]? = some v → ∃ (T : Addr) (k : Int) (tk : Tok) (u : Value), v = .ref T ∧ kvs[i]? = some (k, u) ∧ IsTup s.heap T #[.int k tk, u])
    (h : ∀ h' tk, h'.DictOf (intKind prg w) s.heap.objs.size (foldS kvs []) → (∀ b o, s.heap.get? b = some o → h'.get? b = some o) → Q (.ref s.heap.objs.size) { s with heap := h', toks := tk }) :
    wpAny (model prg w) A (call (.type "dict") [.ref l]) Q E s := by
  refine callType_codes (Q₁ := fun obj s₁ => obj = .ref s.heap.objs.size ∧ s₁ = { s with heap := s.heap.push { cls := .type "dict", data := .dict #[] } }) F.kt_called_dict (F.kt_typeCall_dict_1 _) F.entry_dict_init (kt_code_dict_new _ ⟨rfl, rfl⟩) ?_
  rintro obj s₁ ⟨rfl, rfl⟩
  have hnew : (s.heap.push { cls := .type "dict", data := .dict #[] }).DictOf (intKind prg w) s.heap.objs.size [] := Heap.DictOf.new s.heap
  have hl' : (s.heap.push { cls := .type "dict", data := .dict #[] }).get? l = some o := Heap.get?_push_of_some _ hl
  have hld : s.heap.objs.size ≠ l := Nat.ne_of_gt (Heap.lt_size hl)
  refine ⟨hnew.typeIs, F.args_dict_init_2 _ _, ?_⟩
  unfold Builtin.«dict.__init__»
  refine wpAny_bind ?_
  unfold Builtin.Dict.selfAndRest
  refine wpAny_bind (wpAny_notOrdered_dict hnew.typeIs ?_)
  show wpAny _ _ (Pure.pure (s.heap.objs.size, [Value.ref l])) _ _ _
  refine wpAny_pure ?_
  show wpAny _ _ (Builtin.Dict.updateFrom "dict.__init__" s.heap.objs.size (.ref l) [] .none) _ _ _
  unfold Builtin.Dict.updateFrom
  refine wpAny_bind (wpAny_typeOf_ref hl' ?_)
  rw [hc, if_pos (by decide)]
  refine wpAny_bind (keys_miss hl' hc hdat hdict (A := A.in1.in1) hh fun h₁ tk₁ keep => ?_)
  rw [if_pos (by rfl)]
  refine wpAny_bind (wpAny_rule ?_)
  have hl₁ : h₁.get? l = some o := keep _ _ hl'
  have hil : h₁.IsList l items := ⟨o, hl₁, hc, nl, hdat⟩
  refine wpAny_bind (wpAny_pyIter_list hil ?_)
  have hlt1 : s.heap.objs.size < h₁.objs.size := by
    obtain ⟨o', ho', _⟩ := Heap.dictOf_iff.mp hnew
    exact Heap.lt_size (keep _ _ ho')
  have hlt2 : l < h₁.objs.size := Heap.lt_size hl₁
  have W := Walks.list (prog := prg) (w := w) (A := A.in1.in1) hh h₁.objs.size l (Nat.ne_of_lt hlt2) items
  refine wpAny_pure ⟨plainId_quiet plain_upd_loop _, pairs_loop (A := A.in1) (d := s.heap.objs.size) (I := h₁.objs.size) (s₀ := { s with heap := h₁.push { cls := .type "list_iterator", data := .fields #[.ref l, .int 0 0] }, toks := tk₁ }) W (Nat.ne_of_lt hlt1) hld hn hz (fun i v hv => ?_) kvs.length 0 _ _ [] rfl (Nat.zero_le _) ⟨⟨_, Heap.get?_push_size _ rfl, rfl, rfl⟩, hil.push _⟩ ?_ (Nat.le_refl _) (fun b o hb hbd e => e) fun h' tk' hd' keep' => ?_⟩
  · obtain ⟨T, k, tk, u, e, hk, hT⟩ := hit i v hv
    obtain ⟨oT, hoT, hcT, nT, hdT⟩ := hT
    have hTl := Heap.lt_size hoT
    have hT1 := keep _ _ (Heap.get?_push_of_some { cls := .type "dict", data := .dict #[] } hoT)
    exact ⟨T, k, tk, u, e, hk, Nat.ne_of_lt (Heap.lt_size hT1), Nat.ne_of_lt hTl, ⟨oT, Heap.get?_push_of_some _ hT1, hcT, nT, hdT⟩⟩
  · obtain ⟨o', ho', hd'⟩ := Heap.dictOf_iff.mp hnew
    exact Heap.dictOf_iff.mpr ⟨o', Heap.get?_push_of_some _ (keep _ _ ho'), hd'⟩
  · refine ⟨rfl, h h' tk' hd' fun b o e => keep' b o ?_ ?_ (Heap.get?_push_of_some _ (keep _ _ (Heap.get?_push_of_some _ e)))⟩
    · exact Nat.ne_of_lt (Heap.lt_size (keep _ _ (Heap.get?_push_of_some _ e)))
    · exact Nat.ne_of_lt (Heap.lt_size e)
end

end

section
-- part LzPrim8
section
variable {c : Cx} {m : Loc} {M Φ : Led} {s : Shared} {Q : Value → Loc → Led → Led → Prop}
theorem Sat.newF {D : Addr} {o : Obj} {h' : Heap} {tk : Nat} (S : Sat c m M Φ s) (F : Fr c.h₀ c.L h' m) (N : News c.h₀ c.L h' ((D, o) :: (M ++ Φ))) (hlt : ∀ p ∈ M ++ Φ, p.1 ≠ D) : Sat c m M ((D, o) :: Φ) { s with heap := h', toks := tk } := by
  refine ⟨F, fun p hp => N p ?_, ⟨S.S.1, fun p hp q hq => ?_⟩⟩
  · rcases List.mem_append.mp hp with hp | hp
    · exact .tail _ (List.mem_append_left _ hp)
    · rcases List.mem_cons.mp hp with rfl | hp
      · exact .head _
      · exact .tail _ (List.mem_append_right _ hp)
  · rcases List.mem_cons.mp hp with rfl | hp
    · exact Ne.symm (hlt q (List.mem_append_left _ hq))
    · exact S.S.2 p hp q hq
theorem newDictP {l : Addr} {us : List Value} {n : Nat} {kvs : List (Int × Value)} (h1 : (l, lo us n) ∈ M ++ Φ) (hlen : us.length = kvs.length) (hz : us.length ≤ 2 ^ 20)
    (hp : ∀ (i : Nat) (v : Value), us[i]? = some v → ∃ (T : Addr) (o : Obj) (k : Int) (tk : Tok) (u : Value), v = .ref T ∧ kvs[i]? = some (k, u) ∧ (T, o) ∈ M ++ Φ ∧ TO o [.int k tk, u])
    (h : ∀ D o, DO c.w D o (foldS kvs []) → Q (.ref D) m M ((D, o) :: Φ)) : EW c (call (.type "dict") [.ref l]) m M Φ Q := EW.mk fun G s S => by
  refine dict_pairs (w := c.w) (kvs := kvs) (S.at h1) rfl rfl rfl G.handled (by simpa using hlen) (by omega) (fun i v hv => ?_) fun h' tk hd keep => ?_
  · obtain ⟨T, o, k, tk, u, e, hk, hm, ho⟩ := hp i v (by simpa using hv)
    exact ⟨T, k, tk, u, e, hk, ho.at S hm⟩
  · obtain ⟨o, ho, hd'⟩ := Heap.dictOf_iff.mp hd
    have hne : (s.heap.objs.size == sysModules) = false := beq_eq_false_iff_ne.mpr (Nat.ne_of_gt (S.big G))
    exact Post.here (S.newF (tk := tk) (S.F.kept keep) (S.N.kept_cons S.F keep (Nat.le_refl _) ho) fun p hp => Nat.ne_of_lt (S.lt hp)) (fun _ h => .tail _ h) (h _ o ⟨hne, hd'⟩)

theorem sortL {l : Addr} {o : Obj} {us : List Value} {ns : List Int} (h1 : (l, o) ∈ M ++ Φ) (ho : LO o us) (hi : IntsAre us ns) (h64 : ns.length < 64)
    (h : ∀ D vs n ks, IntsAre vs ks → ks.Perm ns → ks.Pairwise (· ≤ ·) → Q (.ref D) m M ((D, lo vs n) :: Φ)) : EW c (call (.builtin "sorted") [.ref l]) m M Φ Q := EW.mk fun G s S =>
  kso_sorted S.F S.N (ho.at S h1) hi h64 fun D vs ks n h' F N hlt hks _ hp hs _ => Post.here (S.newF (tk := s.toks) F N fun p hp => Nat.ne_of_lt (hlt p hp)) (fun _ h => .tail _ h) (h D vs n ks hks hp hs)

theorem isInt_all {vs : List Value} {ns : List Int} (hl : vs.length = ns.length) (h : ∀ (j : Nat) (v : Value), vs[j]? = some v → ∃ k t, ns[j]? = some k ∧ v = .int k t) : IntsAre vs ns := by
  induction vs generalizing ns with
  | nil => cases ns with
    | nil => exact .nil
    | cons => simp at hl
  | cons v vs ih => cases ns with
    | nil => simp at hl
    | cons k ns =>
      obtain ⟨k', t, e, rfl⟩ := h 0 v rfl
      simp only [List.getElem?_cons_zero, Option.some.injEq] at e
      subst e
      exact .cons k t (ih (by simpa using hl) fun j v hv => by simpa using h (j + 1) v (by simpa using hv))

theorem sortD {d : Addr} {o : Obj} {kvs : List (Int × Value)} (h1 : (d, o) ∈ M ++ Φ) (ho : DO c.w d o kvs) (h64 : kvs.length < 64)
    (h : ∀ D vs n ks, IntsAre vs ks → ks.Perm (kvs.map (·.1)) → ks.Pairwise (· ≤ ·) → Q (.ref D) m M ((D, lo vs n) :: Φ)) : EW c (call (.builtin "sorted") [.ref d]) m M Φ Q := EW.mk fun G s S => by
  obtain ⟨ep, hat⟩ := (ho.at S h1).dictAt
  refine kdu_sorted (kdl_dict (knd := intKind prg c.w) (kvs := kvs) (ep := ep) ho.1) G.handled S.F S.N hat (by rw [sizeLine_eq]; omega) fun D h' tk vs F' N' hlt hvl hv => ?_
  have hI : IntsAre vs (kvs.map (·.1)) := isInt_all (by rw [List.length_map]; exact hvl) fun j v hj => by
    obtain ⟨k, x, hk, his⟩ := hv j v hj
    obtain ⟨t, rfl⟩ := Value.isInt_shape his
    exact ⟨k, t, by rw [List.getElem?_map, hk]; rfl, rfl⟩
  have S₁ : Sat c m M ((D, lo vs 0) :: Φ) { s with heap := h', toks := tk } := S.newF (tk := tk) F' N' fun p hp => Nat.ne_of_lt (hlt p hp)
  have hD := S₁.at (a := D) (o := lo vs 0) (mem_led (.head _))
  have S₂ : Sat c m (M ++ [(D, lo vs 0)]) Φ { s with heap := h', toks := tk } := by
    refine ⟨F', fun p hp => N' p ?_, ⟨?_, fun p hp q hq => ?_⟩⟩
    · rcases List.mem_append.mp hp with hp | hp
      · rcases List.mem_append.mp hp with hp | hp
        · exact .tail _ (List.mem_append_left _ hp)
        · rw [List.mem_singleton.mp hp]; exact .head _
      · exact .tail _ (List.mem_append_right _ hp)
    · rw [List.map_append, List.nodup_append]
      refine ⟨S.S.1, by simp, fun a ha b hb => ?_⟩
      obtain ⟨q, hq, rfl⟩ := List.mem_map.mp ha
      rw [List.mem_singleton.mp hb]
      exact Nat.ne_of_lt (hlt q (List.mem_append_left _ hq))
    · rcases List.mem_append.mp hq with hq | hq
      · exact S.S.2 p hp q hq
      · rw [List.mem_singleton.mp hq]; exact Nat.ne_of_lt (hlt p (List.mem_append_right _ hp))
  refine wpAny_call_entry slot_list_sort ⟨_, hD, rfl⟩ entry_list_sort (list_sort_tree (n := 0) (vs := vs) hD hI (by omega) fun out ks a1 a2 a3 => ⟨.none, rfl, ?_⟩) (args_list_sort _)
  obtain ⟨e, he⟩ := sortedHeap_at (h := h') (a := D) (vs := vs) (n := 0) (out := out) hD
  have S₃ : Sat c m (M ++ [(D, lo out.toList e)]) Φ { s with heap := sortedHeap h' D vs out, toks := tk } := S₂.but (tk := tk) (fun b ob hb hbo => (sortedHeap_old hb (Heap.lt_size hbo)).trans hbo) (by rw [he])
  exact Post.here (m' := m) (S₃.perm List.perm_append_comm).freeze (fun _ h => .tail _ h) (h D out.toList e ks a1 a2 a3)
end

end

section
-- part lawE
local macro_rules | `(tactic| walk_at "mem") => `(tactic| first
  | assumption
  | exact List.Mem.head _
  | (refine List.Mem.tail _ ?_; walk_at "mem"))
local macro_rules | `(tactic| walk_at "nm") => `(tactic| first
  | ((with_reducible show EW _ (eval (Expr.Name _ _) (compEnvC _ _ _ _)) _ _ _ _); first
    | (with_reducible refine nCL (List.mem_append_left _ (List.Mem.tail _ (List.Mem.head _))) (by assumption) (by assumption) ?_)
    | ((with_reducible refine' nCC ?hc (List.mem_append_right _ ?hm) ?hd ?_); (case hc => with_unfolding_all rfl); (case hm => walk_at "mem"); (case hd => assumption)))
  | ((with_reducible show EW _ (eval (Expr.Name _ _) _) _ _ _ _);
     ((with_reducible refine' nC ?hc (List.mem_append_right _ ?hm) ?hd ?_); (case hc => with_unfolding_all rfl); (case hm => walk_at "mem"); (case hd => assumption))))
theorem ints_ok (ks : List Int) (j : Nat) : kqdOk (j + 1) (.list (ks.map Dat.int)) = true := by
  show (ks.map Dat.int).all (kqdOk j) = true
  rw [List.all_eq_true]
  intro d hd
  obtain ⟨k, _, rfl⟩ := List.mem_map.mp hd
  cases j <;> rfl
theorem LB.reach {c : Cx} {Φ : Led} {src Dr H : Addr} {rows : List Cell} {roots : List Nat} {S : St} {k : Col} {Ad Rd Td : Addr} (B : LB c Φ src Dr H rows roots S k Ad Rd Td) {met : List Nat} (hiff : ∀ a, a ∈ met ↔ Reach rows roots a) {a : Nat} (h : a ∈ met) : a ∈ S.D := (B.done.iff a).mpr ((hiff a).mp h)
section
variable {c : Cx} {m : Loc} {Φ : Led} {Q : Flow → Loc → Led → Led → Prop} {fa : Addr} {cd : Value}
theorem law_E1 {src Dr H Ad Rd Td Mt Et : Addr} {rows : List Cell} {roots met : List Nat} {S : St} {k : Col} {ms es : List Value} {nm ne : Nat} (hn : 20 ≤ c.n) (B : LB c Φ src Dr H rows roots S k Ad Rd Td)
    (hM : (Mt, lo ms nm) ∈ Φ) (hms : IntL ms met) (hnd : met.Nodup) (hiff : ∀ a, a ∈ met ↔ Reach rows roots a) (hE : (Et, lo es ne) ∈ Φ) (hes : IntL es (endsOf rows met))
    (hL : Locs m [("ahead", .ref Ad), ("roots", .ref Rd), ("told", .ref Td), ("fresh", .ref k.F), ("met", .ref Mt), ("ends", .ref Et)])
    (h : ∀ Φ', (∀ p ∈ Φ, p ∈ Φ') → EW c (execs (lawBody.drop 12) (lawEnv c.L fa cd)) m [] Φ' Q) :
    EW c (execs (lawBody.drop 11) (lawEnv c.L fa cd)) m [] Φ Q := by
  obtain ⟨c4, hk4, dk4⟩ := B.k4
  obtain ⟨om, kvm, hmv, dmv, hmov⟩ := B.mv
  obtain ⟨of, kvf, hfc, dfc, hfr⟩ := B.fc
  obtain ⟨ei, ni, ti, hfi, hFi⟩ := B.fi
  have hmany := B.la.wf.many
  have hdm := B.done.inv.dmany
  have hmm := nodup_le hnd fun a ha => ((hiff a).mp ha).lt B.la.wf B.rl
  have hml := hms.length
  have hmlen := hmov.len
  have hflen := hfr.len
  have hcl := B.done.inv.cl
  have hel := hes.length
  have hen := (B.done.ends hnd hiff).1
  have hwm := B.done.inv.wmany
  refine execs_cons (EW.mono (Q := fun f m' M' Φ' => f = .next ∧ m' = m ∧ M' = [] ∧ (∀ p ∈ Φ, p ∈ Φ')) ?_ ?_)
  · walk_at "w"
    refine sortD (mem_led hmv) dmv (by omega) fun D1 v1 n1 k1 hv1 hp1 hs1 => ?_
    walk_at "w"
    refine sortL (mem_led (.tail _ hM)) LO.lo hms (by rw [List.length_map]; omega) fun D2 v2 n2 k2 hv2 hp2 hs2 => ?_
    walk_at "w"
    have hk12 : k1 = k2 := by
      refine lks_uniq (hp1.trans ?_) hs1 hs2
      rw [hmov.keys]
      exact ((B.done.perm hnd hiff).map _).trans hp2.symm
    subst hk12
    refine dNe (n₁ := [(D1, lo v1 n1)]) (n₂ := [(D2, lo v2 n2)]) (.list (.head _) (ints_dat hv1 _)) (fun p hp => by rw [List.mem_singleton.mp hp]; exact mem_led (.tail _ (.head _))) (.list (.head _) (ints_dat hv2 _)) (fun p hp => by rw [List.mem_singleton.mp hp]; exact mem_led (.head _)) (ints_ok _ 8) (ints_ok _ 8) fun b hb => ?_
    obtain rfl : b = false := by
      cases b with
      | false => rfl
      | true => exact absurd rfl (hb.mp rfl)
    walk_at "w"
    refine gM (mem_led (.tail _ (.tail _ B.fix.fr))) (mem_led (.tail _ (.tail _ hfi))) hFi (by k_is) (by k_is) (by k_is) rfl ?_
    walk_at "w"
    refine heap_many (by omega) (.tail _ (.tail _ B.fix.fr)) (mem_led (.tail _ (.tail _ hfi))) hFi (mem_led (.tail _ (.tail _ hfc))) dfc (by omega) fun _ => ?_
    walk_at "w"
    refine lenL (mem_led (.tail _ (.tail _ hE))) LO.lo (by omega) fun _ => ?_
    have ee : (kvf.length : Int) = (es.length : Int) := by omega
    rw [ee]
    walk_at "w"
    refine ite_F (by simp) ?_
    walk_at "w"
    exact ⟨rfl, rfl, rfl, fun p hp => .tail _ (.tail _ hp)⟩
  rintro f m₁ M₁ Φ₁ _ ⟨rfl, rfl, rfl, sub₁⟩
  exact h Φ₁ sub₁
end

end

section
-- part lawF
local macro_rules | `(tactic| walk_at "mem") => `(tactic| first
  | assumption
  | exact List.Mem.head _
  | (refine List.Mem.tail _ ?_; walk_at "mem"))
local macro_rules | `(tactic| walk_at "nm") => `(tactic| first
  | ((with_reducible show EW _ (eval (Expr.Name _ _) (compEnvC _ _ _ _)) _ _ _ _); first
    | (with_reducible refine nCL (List.mem_append_left _ (List.Mem.tail _ (List.Mem.head _))) (by assumption) (by assumption) ?_)
    | ((with_reducible refine' nCC ?hc (List.mem_append_right _ ?hm) ?hd ?_); (case hc => with_unfolding_all rfl); (case hm => walk_at "mem"); (case hd => assumption)))
  | ((with_reducible show EW _ (eval (Expr.Name _ _) _) _ _ _ _);
     ((with_reducible refine' nC ?hc (List.mem_append_right _ ?hm) ?hd ?_); (case hc => with_unfolding_all rfl); (case hm => walk_at "mem"); (case hd => assumption))))
theorem foldS_nodup : ∀ {kvs acc : List (Int × Value)}, (acc.map (·.1) ++ kvs.map (·.1)).Nodup → foldS kvs acc = acc ++ kvs
  | [], acc, _ => by simp [foldS]
  | p :: kvs, acc, h => by
    have hn : p.1 ∉ acc.map (·.1) := fun hm => by
      rw [List.nodup_append] at h
      exact h.2.2 _ hm _ (.head _) rfl
    have e : stored acc p.1 p.2 = acc ++ [p] := by
      unfold stored
      rw [if_neg]
      intro ha
      obtain ⟨q, hq, e⟩ := List.any_eq_true.mp ha
      exact hn (List.mem_map.mpr ⟨q, hq, by simpa using e⟩)
    show foldS kvs (stored acc p.1 p.2) = _
    rw [e, foldS_nodup (by rw [List.map_append, List.append_assoc]; exact h), List.append_assoc]
    rfl
/-- pairs, as tuples in the ledger -/
structure PairsIn (Φ : Led) (us : List Value) (kvs : List (Int × Value)) : Prop where
  len : us.length = kvs.length
  at_ : ∀ (i : Nat) (v : Value), us[i]? = some v → ∃ (T : Addr) (o : Obj) (k : Int) (tk : Tok) (u : Value), v = .ref T ∧ kvs[i]? = some (k, u) ∧ (T, o) ∈ Φ ∧ TO o [.int k tk, u]
theorem PairsIn.nil {Φ : Led} : PairsIn Φ [] [] := ⟨rfl, fun i v h => by simp at h⟩
theorem PairsIn.snoc {Φ : Led} {us : List Value} {kvs : List (Int × Value)} (h : PairsIn Φ us kvs) {T : Addr} {o : Obj} {k : Int} {tk : Tok} {u : Value} (hm : (T, o) ∈ Φ) (ho : TO o [.int k tk, u]) : PairsIn Φ (us ++ [.ref T]) (kvs ++ [(k, u)]) := by
  refine ⟨by simp [h.len], fun i v hv => ?_⟩
  rcases Nat.lt_or_ge i us.length with hi | hi
  · rw [List.getElem?_append_left hi] at hv
    rw [List.getElem?_append_left (by rw [← h.len]; exact hi)]
    exact h.at_ i v hv
  · have hl := lt_of_get hv
    rw [List.length_append, List.length_singleton] at hl
    have e : i = us.length := by omega
    subst e
    rw [List.getElem?_append_right (Nat.le_refl _), Nat.sub_self] at hv
    cases hv
    exact ⟨T, o, k, tk, u, rfl, by rw [h.len, List.getElem?_append_right (Nat.le_refl _), Nat.sub_self]; rfl, hm, ho⟩
theorem PairsIn.sub {Φ Φ' : Led} {us : List Value} {kvs : List (Int × Value)} (h : PairsIn Φ us kvs) (sub : ∀ p ∈ Φ, p ∈ Φ') : PairsIn Φ' us kvs :=
  ⟨h.len, fun i v hv => let ⟨T, o, k, tk, u, e, a, b, x⟩ := h.at_ i v hv; ⟨T, o, k, tk, u, e, a, sub _ b, x⟩⟩
theorem ends_sub {rows : List Cell} {met : List Nat} {a : Nat} (h : a ∈ endsOf rows met) : a ∈ met ∧ (rows.getD a .ho).isLi = false := by
  obtain ⟨h1, h2⟩ := List.mem_filter.mp h
  exact ⟨h1, by simpa using h2⟩
theorem nodup_mapInj {f : Nat → Int} : ∀ {l : List Nat}, l.Nodup → (∀ a ∈ l, ∀ b ∈ l, f a = f b → a = b) → (l.map f).Nodup
  | [], _, _ => List.nodup_nil
  | a :: l, hn, h => by
    rw [List.map_cons, List.nodup_cons]
    rw [List.nodup_cons] at hn
    refine ⟨fun hm => ?_, nodup_mapInj hn.2 fun x hx y hy e => h x (.tail _ hx) y (.tail _ hy) e⟩
    obtain ⟨b, hb, e⟩ := List.mem_map.mp hm
    have := h a (.head _) b (.tail _ hb) e.symm
    exact hn.1 (this ▸ hb)
section
variable {c : Cx} {m : Loc} {Φ : Led} {Q : Flow → Loc → Led → Led → Prop} {fa : Addr} {cd : Value}
theorem law_E2 {src Dr H Ad Rd Td Mt Et : Addr} {rows : List Cell} {roots met : List Nat} {S : St} {k : Col} {ms es : List Value} {nm ne : Nat} (B : LB c Φ src Dr H rows roots S k Ad Rd Td)
    (hnd : met.Nodup) (hiff : ∀ a, a ∈ met ↔ Reach rows roots a) (hE : (Et, lo es ne) ∈ Φ) (hes : IntL es (endsOf rows met))
    (hL : Locs m [("ahead", .ref Ad), ("roots", .ref Rd), ("told", .ref Td), ("fresh", .ref k.F), ("met", .ref Mt), ("ends", .ref Et)])
    (h : ∀ Φ', (∀ p ∈ Φ, p ∈ Φ') → EW c (execs (lawBody.drop 13) (lawEnv c.L fa cd)) m [] Φ' Q) :
    EW c (execs (lawBody.drop 12) (lawEnv c.L fa cd)) m [] Φ Q := by
  obtain ⟨c4, hk4, dk4⟩ := B.k4
  obtain ⟨om, kvm, hmv, dmv, hmov⟩ := B.mv
  have hmany := B.la.wf.many
  have hmm := nodup_le hnd fun a ha => ((hiff a).mp ha).lt B.la.wf B.rl
  have hel := hes.length
  have hen := B.done.ends hnd hiff
  have hwm := B.done.inv.wmany
  refine execs_cons (EW.mono (Q := fun f m' M' Φ' => f = .next ∧ m' = m ∧ M' = [] ∧ (∀ p ∈ Φ, p ∈ Φ')) ?_ ?_)
  · walk_at "w"
    refine EW.mono (Q := fun v m' M' Φ' => m' = m ∧ M' = [] ∧ (∀ p ∈ Φ, p ∈ Φ') ∧ ∃ D us n kvs, v = .ref D ∧ (D, lo us n) ∈ Φ' ∧ PairsIn Φ' us kvs ∧ kvs.map (·.1) = (endsOf rows met).map fun a => ((mvOf rows S a : Nat) : Int)) ?_ ?_
    · refine Comp_ (cl := [("moved", c.L + 4)]) ?_ (by with_unfolding_all rfl) (by with_unfolding_all decide) (by with_unfolding_all rfl) (by with_unfolding_all decide) (by with_unfolding_all rfl)
      walk_at "w"
      refine ⟨rfl, es.length, _, fun j ys M₂ Φ₂ => M₂ = [] ∧ (∀ p ∈ Φ, p ∈ Φ₂) ∧ ∃ kvs, PairsIn Φ₂ ys kvs ∧ kvs.map (·.1) = ((endsOf rows met).take j).map fun a => ((mvOf rows S a : Nat) : Int), .list ⟨_, LO.lo, .inl hE⟩ (by omega), ⟨?_, ?_⟩, ?_⟩
      · exact ⟨rfl, fun p hp => hp, [], .nil, by simp⟩
      · rintro j v ys M₂ Φ₂ I oI C oC E m₂ hj hv sub₂ ⟨rfl, sub₃, kvs, hys, hks⟩ hC hx
        obtain ⟨a, ta, ha, rfl⟩ := hes.get' hv
        have htk : ((endsOf rows met).take (j + 1)).map (fun a => ((mvOf rows S a : Nat) : Int)) = ((endsOf rows met).take j).map (fun a => ((mvOf rows S a : Nat) : Int)) ++ [(mvOf rows S a : Int)] := by rw [List.take_add_one, ha, List.map_append]; rfl
        have haD := B.reach hiff (ends_sub (List.mem_of_getElem? ha)).1
        obtain ⟨tv, hvm⟩ := hmov.val a haD
        have hk4' := sub₃ _ hk4
        walk_at "w"
        refine xD (mem_led (sub₃ _ hmv)) dmv hvm ?_
        walk_at "w"
        refine newT (szl (by simp)) fun Z hZ => ?_
        exact ⟨rfl, _, rfl, rfl, fun p hp => .tail _ (sub₃ p hp), _, (hys.sub fun p hp => .tail _ hp).snoc (.head _) TO.tp, by rw [htk, List.map_append, hks]; rfl⟩
      · rintro ys M₂ Φ₂ E sub₂ ⟨rfl, sub₃, kvs, hys, hks⟩
        rw [hel, List.take_length] at hks
        exact ⟨rfl, rfl, fun p hp => .tail _ (sub₃ p hp), E, ys, _, kvs, rfl, .head _, hys.sub fun p hp => .tail _ hp, hks⟩
    rintro v m₂ M₂ Φ₂ _ ⟨rfl, rfl, sub₂, D, us, nd, kvs, rfl, hD, hus, hks⟩
    have hkl : kvs.length = (endsOf rows met).length := by
      have := congrArg List.length hks
      simpa using this
    have hul := hus.len
    walk_at "w"
    refine newDictP (mem_led hD) hus.len (by omega) (fun i v hv => let ⟨T, o, k, tk, u, e, a, b, x⟩ := hus.at_ i v hv; ⟨T, o, k, tk, u, e, a, mem_led b, x⟩) fun D' o' hD' => ?_
    have hfold : foldS kvs [] = kvs := by
      have := foldS_nodup (kvs := kvs) (acc := []) ?_
      · simpa using this
      · rw [List.map_nil, List.nil_append, hks]
        refine nodup_mapInj hen.2 fun a ha b hb e => ?_
        have h1 := ends_sub ha
        have h2 := ends_sub hb
        have l1 := ((hiff a).mp h1.1).lt B.la.wf B.rl
        have l2 := ((hiff b).mp h2.1).lt B.la.wf B.rl
        have g1 : rows[a]? = some rows[a] := List.getElem?_eq_getElem l1
        have g2 : rows[b]? = some rows[b] := List.getElem?_eq_getElem l2
        exact B.done.inj (B.reach hiff h1.1) (B.reach hiff h2.1) g1 (by simpa [List.getD, g1] using h1.2) g2 (by simpa [List.getD, g2] using h2.2) (by omega)
    rw [hfold] at hD'
    walk_at "w"
    refine lenD (mem_led (.head _)) hD' (by omega) fun _ => ?_
    walk_at "w"
    refine lenL (mem_led (.tail _ (sub₂ _ hE))) LO.lo (by omega) fun _ => ?_
    have ee : (kvs.length : Int) = (es.length : Int) := by omega
    rw [ee]
    walk_at "w"
    refine ite_F (by simp) ?_
    walk_at "w"
    exact ⟨rfl, rfl, rfl, fun p hp => .tail _ (sub₂ p hp)⟩
  rintro f m₁ M₁ Φ₁ _ ⟨rfl, rfl, rfl, sub₁⟩
  exact h Φ₁ sub₁

theorem law_E3 {src Dr H Ad Rd Td Mt Et : Addr} {rows : List Cell} {roots met : List Nat} {S : St} {k : Col} {ms : List Value} {nm : Nat} (hn : 20 ≤ c.n) (B : LB c Φ src Dr H rows roots S k Ad Rd Td)
    (hiff : ∀ a, a ∈ met ↔ Reach rows roots a) (hM : (Mt, lo ms nm) ∈ Φ) (hms : IntL ms met)
    (hL : Locs m [("ahead", .ref Ad), ("roots", .ref Rd), ("told", .ref Td), ("fresh", .ref k.F), ("met", .ref Mt), ("ends", .ref Et)])
    (h : ∀ m' Φ', (∀ p ∈ Φ, p ∈ Φ') → Locs m' [("ahead", .ref Ad), ("roots", .ref Rd), ("told", .ref Td), ("fresh", .ref k.F), ("met", .ref Mt), ("ends", .ref Et)] → EW c (execs (lawBody.drop 14) (lawEnv c.L fa cd)) m' [] Φ' Q) :
    EW c (execs (lawBody.drop 13) (lawEnv c.L fa cd)) m [] Φ Q := by
  obtain ⟨c2, hk2, dk2⟩ := B.la.k2
  obtain ⟨c4, hk4, dk4⟩ := B.k4
  obtain ⟨om, kvm, hmv, dmv, hmov⟩ := B.mv
  have hml := hms.length
  refine execs_cons (EW.mono (Q := fun f m' M' Φ' => f = .next ∧ M' = [] ∧ (∀ p ∈ Φ, p ∈ Φ') ∧ Locs m' [("ahead", .ref Ad), ("roots", .ref Rd), ("told", .ref Td), ("fresh", .ref k.F), ("met", .ref Mt), ("ends", .ref Et)]) ?_ ?_)
  · refine For_list ?_
    walk_at "w"
    refine ⟨Mt, ms, fun j m' M' Φ' => M' = [] ∧ (∀ p ∈ Φ, p ∈ Φ') ∧ Locs m' [("ahead", .ref Ad), ("roots", .ref Rd), ("told", .ref Td), ("fresh", .ref k.F), ("met", .ref Mt), ("ends", .ref Et)], rfl, ⟨_, LO.lo, .inl hM⟩, ⟨?_, ?_, ?_⟩⟩
    · exact ⟨rfl, fun p hp => hp, hL⟩
    · rintro j v m' M' Φ' R hj hv _ ⟨rfl, sub, hL'⟩
      clear hL
      obtain ⟨a, ta, ha, rfl⟩ := hms.get' hv
      have ham := List.mem_of_getElem? ha
      have haD := B.reach hiff ham
      have hal := B.done.inv.dlt a haD
      have heD := B.done.inv.wd _ (B.done.inv.de a haD)
      obtain ⟨t1, hv1⟩ := hmov.val a haD
      obtain ⟨t2, hv2⟩ := hmov.val _ heD
      have hee : mvOf rows S (endOf rows a) = mvOf rows S a := by unfold mvOf; rw [endOf_idem B.la.wf hal]
      rw [hee] at hv2
      have hk2' := sub _ hk2
      have hk4' := sub _ hk4
      walk_at "w"
      refine xD (mem_led (sub _ hmv)) dmv hv1 ?_
      walk_at "w"
      refine law_end (by omega) (B.la.rowsAt.sub sub) B.la.wf hal fun te => ?_
      walk_at "w"
      refine xD (mem_led (sub _ hmv)) dmv hv2 ?_
      walk_at "w"
      refine ite_F (by simp) ?_
      walk_at "w"
      exact ⟨[], rfl, rfl, sub, by walk_at "lk", by walk_at "lk", by walk_at "lk", by walk_at "lk", by walk_at "lk", by walk_at "lk", trivial⟩
    · rintro m' M' Φ' _ ⟨rfl, sub, hL'⟩
      exact ⟨rfl, rfl, sub, hL'⟩
  rintro f m₁ M₁ Φ₁ _ ⟨rfl, rfl, sub₁, hL'⟩
  exact h m₁ Φ₁ sub₁ hL'
end

end

section
-- part lawG
local macro_rules | `(tactic| walk_at "mem") => `(tactic| first
  | assumption
  | exact List.Mem.head _
  | (refine List.Mem.tail _ ?_; walk_at "mem"))
local macro_rules | `(tactic| walk_at "nm") => `(tactic| first
  | ((with_reducible show EW _ (eval (Expr.Name _ _) (compEnvC _ _ _ _)) _ _ _ _); first
    | (with_reducible refine nCL (List.mem_append_left _ (List.Mem.tail _ (List.Mem.head _))) (by assumption) (by assumption) ?_)
    | ((with_reducible refine' nCC ?hc (List.mem_append_right _ ?hm) ?hd ?_); (case hc => with_unfolding_all rfl); (case hm => walk_at "mem"); (case hd => assumption)))
  | ((with_reducible show EW _ (eval (Expr.Name _ _) _) _ _ _ _);
     ((with_reducible refine' nC ?hc (List.mem_append_right _ ?hm) ?hd ?_); (case hc => with_unfolding_all rfl); (case hm => walk_at "mem"); (case hd => assumption))))
theorem V.map_wf {n n' : Nat} {f : Nat → Nat} {v : V} (h : v.wf n) (hf : ∀ b, f b < n') : (v.map f).wf n' := by
  cases v with
  | int i => trivial
  | ch x => exact h
  | «at» a => exact hf a
theorem Cell.map_wf {n n' i : Nat} {f : Nat → Nat} {c : Cell} (h : c.wf n i) (hc : c.isLi = false) (hf : ∀ b, f b < n') : (c.map f).wf n' i := by
  have hv : ∀ vs : List V, (∀ v ∈ vs, v.wf n) → ∀ v ∈ vs.map (V.map f), V.wf n' v := by
    intro vs hvs v hv
    obtain ⟨u, hu, rfl⟩ := List.mem_map.mp hv
    exact V.map_wf (hvs u hu) hf
  cases c with
  | fn s vs => exact ⟨h.1, hv vs h.2⟩
  | th s vs => exact ⟨h.1, hv vs h.2⟩
  | da s vs => exact ⟨h.1, hv vs h.2⟩
  | pa a vs => exact ⟨hf a, hv vs h.2⟩
  | ho => trivial
  | pl v => exact V.map_wf h hf
  | li a => cases hc
theorem Cell.map_vals {f : Nat → Nat} (c : Cell) : (c.map f).vals.length = c.vals.length := by cases c <;> simp [Cell.map, Cell.vals]
theorem mv_lt (rows : List Cell) (S : St) (b : Nat) : mvOf rows S b < S.W.length + 1 := Nat.lt_succ_of_le List.idxOf_le_length
section
variable {c : Cx} {m : Loc} {Φ : Led} {Q : Flow → Loc → Led → Led → Prop} {fa : Addr} {cd : Value}
theorem law_E4 {src Dr H Ad Rd Td Mt Et : Addr} {rows : List Cell} {roots met : List Nat} {S : St} {k : Col} {es : List Value} {ne : Nat} (hn : 20 ≤ c.n) (B : LB c Φ src Dr H rows roots S k Ad Rd Td)
    (hiff : ∀ a, a ∈ met ↔ Reach rows roots a) (hE : (Et, lo es ne) ∈ Φ) (hes : IntL es (endsOf rows met))
    (hL : Locs m [("ahead", .ref Ad), ("roots", .ref Rd), ("told", .ref Td), ("fresh", .ref k.F), ("met", .ref Mt), ("ends", .ref Et)])
    (h : ∀ m' Φ', (∀ p ∈ Φ, p ∈ Φ') → Locs m' [("ahead", .ref Ad), ("roots", .ref Rd), ("told", .ref Td), ("fresh", .ref k.F), ("met", .ref Mt), ("ends", .ref Et)] → EW c (execs (lawBody.drop 15) (lawEnv c.L fa cd)) m' [] Φ' Q) :
    EW c (execs (lawBody.drop 14) (lawEnv c.L fa cd)) m [] Φ Q := by
  obtain ⟨c2, hk2, dk2⟩ := B.la.k2
  obtain ⟨c4, hk4, dk4⟩ := B.k4
  obtain ⟨om, kvm, hmv, dmv, hmov⟩ := B.mv
  obtain ⟨of, kvf, hfc, dfc, hfr⟩ := B.fc
  obtain ⟨ei, ni, ti, hfi, hFi⟩ := B.fi
  have hel := hes.length
  refine execs_cons (EW.mono (Q := fun f m' M' Φ' => f = .next ∧ M' = [] ∧ (∀ p ∈ Φ, p ∈ Φ') ∧ Locs m' [("ahead", .ref Ad), ("roots", .ref Rd), ("told", .ref Td), ("fresh", .ref k.F), ("met", .ref Mt), ("ends", .ref Et)]) ?_ ?_)
  · refine For_list ?_
    walk_at "w"
    refine ⟨Et, es, fun j m' M' Φ' => M' = [] ∧ (∀ p ∈ Φ, p ∈ Φ') ∧ Locs m' [("ahead", .ref Ad), ("roots", .ref Rd), ("told", .ref Td), ("fresh", .ref k.F), ("met", .ref Mt), ("ends", .ref Et)], rfl, ⟨_, LO.lo, .inl hE⟩, ⟨?_, ?_, ?_⟩⟩
    · exact ⟨rfl, fun p hp => hp, hL⟩
    · rintro j v m' M' Φ' R hj hv _ ⟨rfl, sub, hL'⟩
      clear hL
      obtain ⟨a, ta, ha, rfl⟩ := hes.get' hv
      obtain ⟨ham, hli⟩ := ends_sub (List.mem_of_getElem? ha)
      have haD := B.reach hiff ham
      have hal := B.done.inv.dlt a haD
      have hcell : rows[a]? = some rows[a] := List.getElem?_eq_getElem hal
      have hli : rows[a].isLi = false := by simpa [List.getD, hcell] using hli
      have hC := B.done.cell a _ haD hcell hli
      have hnam := fun b => B.done.nam a b _ haD hcell
      have hwf := B.la.wf.cell a _ hcell
      have hvl := B.la.wf.vals a _ hcell
      obtain ⟨t1, hv1⟩ := hmov.val a haD
      obtain ⟨u, hu, hcv⟩ := hfr.val _ _ hC
      have hk2' := sub _ hk2
      have hk4' := sub _ hk4
      generalize rows[a] = cell at hcell hli hC hnam hwf hvl hcv
      have hvl' := Cell.map_vals (f := mvOf rows S) cell
      walk_at "w"
      refine gM (mem_led (sub _ B.fix.fr)) (mem_led (sub _ hfi)) hFi (by k_is) (by k_is) (by k_is) rfl ?_
      walk_at "w"
      refine xD (mem_led (sub _ hmv)) dmv hv1 ?_
      walk_at "w"
      refine heap_get (by omega) (sub _ B.fix.fr) (mem_led (sub _ hfi)) hFi (mem_led (sub _ hfc)) dfc hu ?_
      walk_at "w"
      refine law_row (by omega) (hcv.sub sub) (by omega) fun u1 Φ₁ sub₁ d1 => ?_
      have hk2'' := sub₁ _ hk2'
      have hk4'' := sub₁ _ hk4'
      walk_at "w"
      refine law_mended (f := mvOf rows S) (by omega) (B.la.rowsAt.sub fun p hp => sub₁ p (sub p hp)) B.la.wf hcell hli (sub₁ _ (sub _ hmv)) dmv (fun b hb => ?_) fun u2 Φ₂ sub₂ d2 => ?_
      · have hbD := hnam b hb
        obtain ⟨t3, hv3⟩ := hmov.val _ (B.done.inv.wd _ (B.done.inv.de b hbD))
        have hee : mvOf rows S (endOf rows b) = mvOf rows S b := by unfold mvOf; rw [endOf_idem B.la.wf (B.done.inv.dlt b hbD)]
        rw [hee] at hv3
        exact ⟨t3, hv3⟩
      · have hok := Cell.out_ok (Cell.map_wf hwf hli (mv_lt rows S)) 6
        refine dNe (n₁ := Φ₁) (n₂ := Φ₂) d1 (fun p hp => mem_led (sub₂ p hp)) d2 (fun p hp => mem_led hp) hok hok fun b hb => ?_
        obtain rfl : b = false := by
          cases b with
          | false => rfl
          | true => exact absurd rfl (hb.mp rfl)
        walk_at "w"
        exact ⟨[], rfl, rfl, fun p hp => sub₂ p (sub₁ p (sub p hp)), by walk_at "lk", by walk_at "lk", by walk_at "lk", by walk_at "lk", by walk_at "lk", by walk_at "lk", trivial⟩
    · rintro m' M' Φ' _ ⟨rfl, sub, hL'⟩
      exact ⟨rfl, rfl, sub, hL'⟩
  rintro f m₁ M₁ Φ₁ _ ⟨rfl, rfl, sub₁, hL'⟩
  exact h m₁ Φ₁ sub₁ hL'

theorem law_E5 {src Dr H Ad Rd Td Mt Et : Addr} {rows : List Cell} {roots : List Nat} {S : St} {k : Col} (hn : 20 ≤ c.n) (B : LB c Φ src Dr H rows roots S k Ad Rd Td)
    (hL : Locs m [("ahead", .ref Ad), ("roots", .ref Rd), ("told", .ref Td), ("fresh", .ref k.F), ("met", .ref Mt), ("ends", .ref Et)])
    (h : ∀ Φ', (∀ p ∈ Φ, p ∈ Φ') → EW c (execs (lawBody.drop 16) (lawEnv c.L fa cd)) m [] Φ' Q) :
    EW c (execs (lawBody.drop 15) (lawEnv c.L fa cd)) m [] Φ Q := by
  obtain ⟨c4, hk4, dk4⟩ := B.k4
  obtain ⟨om, kvm, hmv, dmv, hmov⟩ := B.mv
  obtain ⟨ts, nt, hT, hts⟩ := B.told
  obtain ⟨rs, nr, hR, hrs⟩ := B.rts
  have hrn := B.rn
  have hrl := hrs.length
  have htl := hts.length
  rw [List.length_map, List.length_append, List.length_map, List.length_singleton] at htl
  have hrD : ∀ a ∈ roots, a ∈ S.D := fun a ha => (B.done.iff a).mpr (.root ha)
  refine execs_cons (EW.mono (Q := fun f m' M' Φ' => f = .next ∧ m' = m ∧ M' = [] ∧ (∀ p ∈ Φ, p ∈ Φ')) ?_ ?_)
  · walk_at "w"
    refine EW.mono (Q := fun v m' M' Φ' => m' = m ∧ M' = [] ∧ (∀ p ∈ Φ, p ∈ Φ') ∧ ∃ D us n, v = .ref D ∧ (D, lo us n) ∈ Φ' ∧ DatAll Φ' us (((roots.map V.at ++ [V.int 7]).map (V.map (mvOf rows S))).map V.dat)) ?_ ?_
    · refine Comp_ (cl := [("moved", c.L + 4)]) ?_ (by with_unfolding_all rfl) (by with_unfolding_all decide) (by with_unfolding_all rfl) (by with_unfolding_all decide) (by with_unfolding_all rfl)
      walk_at "w"
      refine ⟨rfl, ts.length, _, fun j ys M₂ Φ₂ => M₂ = [] ∧ (∀ p ∈ Φ, p ∈ Φ₂) ∧ DatAll Φ₂ ys ((((roots.map V.at ++ [V.int 7]).take j).map (V.map (mvOf rows S))).map V.dat), .list ⟨_, LO.lo, .inl hT⟩ (by omega), ⟨?_, ?_⟩, ?_⟩
      · exact ⟨rfl, fun p hp => hp, by rw [List.take_zero]; exact .nil⟩
      · rintro j v ys M₂ Φ₂ I oI C oC E m₂ hj hv sub₂ ⟨rfl, sub₃, hys⟩ hC hx
        have hjl : j < (roots.map V.at ++ [V.int 7]).length := by rw [List.length_append, List.length_map, List.length_singleton]; omega
        have hg : (roots.map V.at ++ [V.int 7])[j]? = some (roots.map V.at ++ [V.int 7])[j] := List.getElem?_eq_getElem hjl
        have hmem := List.mem_of_getElem? hg
        have htk : (((roots.map V.at ++ [V.int 7]).take (j + 1)).map (V.map (mvOf rows S))).map V.dat = (((roots.map V.at ++ [V.int 7]).take j).map (V.map (mvOf rows S))).map V.dat ++ [(V.map (mvOf rows S) (roots.map V.at ++ [V.int 7])[j]).dat] := by rw [List.take_add_one, hg, List.map_append, List.map_append]; rfl
        obtain ⟨v', hv', dv⟩ := datGet hts (i := j) (d := ((roots.map V.at ++ [V.int 7])[j]).dat) (by rw [List.getElem?_map, hg]; rfl)
        rw [hv] at hv'
        cases hv'
        have dv := dv.mono sub₃
        have hk4' := sub₃ _ hk4
        have hrefs : ∀ b ∈ ((roots.map V.at ++ [V.int 7])[j]).refs, b ∈ roots := fun b hb => by
          rw [← refs_told roots]
          exact List.mem_flatMap.mpr ⟨_, hmem, hb⟩
        generalize (roots.map V.at ++ [V.int 7])[j] = x at dv htk hrefs
        walk_at "w"
        refine value_moved (f := mvOf rows S) (by omega) dv (sub₃ _ hmv) dmv (fun b hb => hmov.val b (hrD b (hrefs b hb))) fun u' Φ' sub' du => ?_
        exact ⟨rfl, _, rfl, rfl, fun p hp => sub' p (sub₃ p hp), by rw [htk]; exact (hys.mono sub').append (.one du)⟩
      · rintro ys M₂ Φ₂ E sub₂ ⟨rfl, sub₃, hys⟩
        rw [List.take_of_length_le (by rw [List.length_append, List.length_map, List.length_singleton]; omega)] at hys
        exact ⟨rfl, rfl, fun p hp => .tail _ (sub₃ p hp), E, ys, _, rfl, .head _, hys.mono fun p hp => .tail _ hp⟩
    rintro v m₂ M₂ Φ₂ _ ⟨rfl, rfl, sub₂, D, us, nd, rfl, hD, hus⟩
    refine BinOp_ ?_
    refine EW.mono (Q := fun v m' M' Φ' => m' = m₂ ∧ M' = [] ∧ (∀ p ∈ Φ₂, p ∈ Φ') ∧ ∃ D us n, v = .ref D ∧ (D, lo us n) ∈ Φ' ∧ DatAll Φ' us ((roots.map fun a => V.at (mvOf rows S a)).map V.dat)) ?_ ?_
    · refine Comp_ (cl := [("moved", c.L + 4)]) ?_ (by with_unfolding_all rfl) (by with_unfolding_all decide) (by with_unfolding_all rfl) (by with_unfolding_all decide) (by with_unfolding_all rfl)
      walk_at "w"
      refine ⟨rfl, rs.length, _, fun j ys M₃ Φ₃ => M₃ = [] ∧ (∀ p ∈ Φ₂, p ∈ Φ₃) ∧ DatAll Φ₃ ys (((roots.take j).map fun a => V.at (mvOf rows S a)).map V.dat), .list ⟨_, LO.lo, .inl (sub₂ _ hR)⟩ (by omega), ⟨?_, ?_⟩, ?_⟩
      · exact ⟨rfl, fun p hp => hp, by rw [List.take_zero]; exact .nil⟩
      · rintro j v ys M₃ Φ₃ I oI C oC E m₃ hj hv _ ⟨rfl, sub₃, hys⟩ hC hx
        obtain ⟨a, ta, ha, rfl⟩ := hrs.get' hv
        obtain ⟨t1, hv1⟩ := hmov.val a (hrD a (List.mem_of_getElem? ha))
        have htk : ((roots.take (j + 1)).map fun a => V.at (mvOf rows S a)).map V.dat = ((roots.take j).map fun a => V.at (mvOf rows S a)).map V.dat ++ [(V.at (mvOf rows S a)).dat] := by rw [List.take_add_one, ha, List.map_append, List.map_append]; rfl
        have hk4' := sub₃ _ (sub₂ _ hk4)
        walk_at "w"
        refine xD (mem_led (sub₃ _ (sub₂ _ hmv))) dmv hv1 ?_
        walk_at "w"
        refine newT (szl (by simp)) fun Z hZ => ?_
        exact ⟨rfl, _, rfl, rfl, fun p hp => .tail _ (sub₃ p hp), by rw [htk]; exact (hys.mono fun p hp => .tail _ hp).append (.one (.tuple (.head _) (.cons (.str _ _) (.cons (.int _ _) .nil))))⟩
      · rintro ys M₃ Φ₃ E _ ⟨rfl, sub₃, hys⟩
        rw [hrl, List.take_length] at hys
        exact ⟨rfl, rfl, fun p hp => .tail _ (sub₃ p hp), E, ys, _, rfl, .head _, hys.mono fun p hp => .tail _ hp⟩
    rintro v m₃ M₃ Φ₃ _ ⟨rfl, rfl, sub₃, D2, us2, nd2, rfl, hD2, hus2⟩
    have hul2 := hus2.length
    rw [List.length_map, List.length_map] at hul2
    walk_at "w"
    refine newT (szl (by simp)) fun Z hZ => ?_
    walk_at "w"
    refine newL (szl (by simp)) fun Y hY => ?_
    refine addL (mem_led (.tail _ (.tail _ hD2))) LO.lo (mem_led (.head _)) LO.lo (by simp; omega) fun T hT => ?_
    refine EW.frozen ?_
    have hok : kqdOk 9 (.list (((roots.map V.at ++ [V.int 7]).map (V.map (mvOf rows S))).map V.dat)) = true := by
      refine vsD_ok (n := S.W.length + 1) (fun v hv => ?_) 7
      obtain ⟨u, hu, rfl⟩ := List.mem_map.mp hv
      rcases List.mem_append.mp hu with hu | hu
      · obtain ⟨a, _, rfl⟩ := List.mem_map.mp hu
        exact mv_lt rows S a
      · rw [List.mem_singleton.mp hu]; trivial
    have e : ((roots.map V.at ++ [V.int 7]).map (V.map (mvOf rows S))).map V.dat = (roots.map fun a => V.at (mvOf rows S a)).map V.dat ++ [(V.int 7).dat] := by
      simp only [List.map_append, List.map_map]; rfl
    rw [e] at hok hus
    refine dNe (n₁ := Φ₂) (d := .list ((roots.map fun a => V.at (mvOf rows S a)).map V.dat ++ [(V.int 7).dat])) (e := .list ((roots.map fun a => V.at (mvOf rows S a)).map V.dat ++ [(V.int 7).dat])) (.list hD hus) (fun p hp => mem_led (.tail _ (.tail _ (.tail _ (sub₃ p hp))))) (.list (.head _) ((hus2.mono fun p hp => .tail _ (.tail _ (.tail _ hp))).append (.one (.tuple (.tail _ (.tail _ (.head _))) (.cons (.str _ _) (.cons (.int _ _) .nil)))))) (fun p hp => mem_led hp) hok hok fun b hb => ?_
    obtain rfl : b = false := by
      cases b with
      | false => rfl
      | true => exact absurd rfl (hb.mp rfl)
    walk_at "w"
    exact ⟨rfl, rfl, rfl, fun p hp => .tail _ (.tail _ (.tail _ (sub₃ p (sub₂ p hp))))⟩
  rintro f m₁ M₁ Φ₁ _ ⟨rfl, rfl, rfl, sub₁⟩
  exact h Φ₁ sub₁
end

end

section
-- part lawH
local macro_rules | `(tactic| walk_at "mem") => `(tactic| first
  | assumption
  | exact List.Mem.head _
  | (refine List.Mem.tail _ ?_; walk_at "mem"))
local macro_rules | `(tactic| walk_at "nm") => `(tactic| first
  | ((with_reducible show EW _ (eval (Expr.Name _ _) (compEnvC _ _ _ _)) _ _ _ _); first
    | (with_reducible refine nCL (List.mem_append_left _ (List.Mem.tail _ (List.Mem.head _))) (by assumption) (by assumption) ?_)
    | ((with_reducible refine' nCC ?hc (List.mem_append_right _ ?hm) ?hd ?_); (case hc => with_unfolding_all rfl); (case hm => walk_at "mem"); (case hd => assumption)))
  | ((with_reducible show EW _ (eval (Expr.Name _ _) _) _ _ _ _);
     ((with_reducible refine' nC ?hc (List.mem_append_right _ ?hm) ?hd ?_); (case hc => with_unfolding_all rfl); (case hm => walk_at "mem"); (case hd => assumption))))
section
variable {c : Cx} {m : Loc} {Φ : Led} {fa : Addr} {cd : Value}
theorem law_E6 {src Dr H Ad Rd Td Mt Et : Addr} {rows : List Cell} {roots : List Nat} {S : St} {k : Col} (hn : 20 ≤ c.n) (B : LB c Φ src Dr H rows roots S k Ad Rd Td)
    (hL : Locs m [("ahead", .ref Ad), ("roots", .ref Rd), ("told", .ref Td), ("fresh", .ref k.F), ("met", .ref Mt), ("ends", .ref Et)]) :
    EW c (execs (lawBody.drop 16) (lawEnv c.L fa cd)) m [] Φ (fun f _ _ _ => f = .ret (.bool true)) := by
  obtain ⟨c2, hk2, dk2⟩ := B.la.k2
  obtain ⟨c3, hk3, dk3⟩ := B.la.k3
  obtain ⟨us, nu, hl, hlen, get⟩ := B.la.rowsAt.get
  obtain ⟨as, na, hA, has⟩ := B.ahead
  have hmany := B.la.wf.many
  refine execs_cons (EW.mono (Q := fun f _ _ _ => f = .ret (.bool true)) ?_ fun f m' M' Φ' _ e => by subst e; rfl)
  refine Return_ ?_
  refine Compare_ ?_
  refine EW.mono (Q := fun v m' M' Φ' => m' = m ∧ M' = [] ∧ (∀ p ∈ Φ, p ∈ Φ') ∧ ∃ D ys n, v = .ref D ∧ (D, lo ys n) ∈ Φ' ∧ DatAll Φ' ys (rows.map Cell.out)) ?_ ?_
  · refine Comp_ (cl := [("heap", c.L + 3)]) ?_ (by with_unfolding_all rfl) (by with_unfolding_all decide) (by with_unfolding_all rfl) (by with_unfolding_all decide) (by with_unfolding_all rfl)
    walk_at "w"
    refine lenL (mem_led hl) LO.lo (by omega) fun _ => ?_
    walk_at "w"
    refine newR fun r oR t1 u1 v1 hr => ?_
    obtain ⟨q1, q2⟩ := small1 (b := (us.length : Nat)) (by omega) (by omega)
    rw [Int.toNat_natCast] at q2
    have hsrc : Source c ((r, oR) :: Φ) (.ref r) us.length _ := .range (.head _) hr q1 q2 (by omega)
    clear q1 q2 hr
    refine ⟨rfl, us.length, _, fun j ys M₂ Φ₂ => M₂ = [] ∧ (∀ p ∈ Φ, p ∈ Φ₂) ∧ DatAll Φ₂ ys ((rows.take j).map Cell.out), hsrc, ⟨?_, ?_⟩, ?_⟩
    · exact ⟨rfl, fun p hp => .tail _ hp, by rw [List.take_zero]; exact .nil⟩
    · rintro j v ys M₂ Φ₂ I oI C oC E m₂ hj ⟨tv, rfl⟩ sub₂ ⟨rfl, sub₃, hys⟩ hC hx
      have hj2 : j < rows.length := by omega
      have hcj : rows[j]? = some rows[j] := List.getElem?_eq_getElem hj2
      have htk : (rows.take (j + 1)).map Cell.out = (rows.take j).map Cell.out ++ [rows[j].out] := by rw [List.take_add_one, hcj, List.map_append]; rfl
      have hvl := B.la.wf.vals j _ hcj
      have hk3' := sub₃ _ hk3
      generalize rows[j] = cell at hcj htk hvl
      walk_at "w"
      refine old_meth (B.la.old.sub sub₃) (by k_is) (by k_is) (by k_is) ?_
      walk_at "w"
      refine old_get (by omega) (B.la.old.sub sub₃) hcj fun u hu => ?_
      walk_at "w"
      refine law_row (by omega) hu (by omega) fun u' Φ'' sub'' du => ?_
      exact ⟨rfl, _, rfl, rfl, fun p hp => sub'' p (sub₃ p hp), by rw [htk]; exact (hys.mono sub'').append (.one du)⟩
    · rintro ys M₂ Φ₂ E sub₂ ⟨rfl, sub₃, hys⟩
      rw [hlen, List.take_length] at hys
      exact ⟨rfl, rfl, fun p hp => .tail _ (sub₃ p hp), E, ys, _, rfl, .head _, hys.mono fun p hp => .tail _ hp⟩
  rintro v m₁ M₁ Φ₁ _ ⟨rfl, rfl, sub₁, D, ys, n, rfl, hD, hys⟩
  walk_at "w"
  have hok : kqdOk 9 (.list (rows.map Cell.out)) = true := by
    show (rows.map Cell.out).all (kqdOk 8) = true
    rw [List.all_eq_true]
    intro d hd
    obtain ⟨cell, hc, rfl⟩ := List.mem_map.mp hd
    obtain ⟨i, hi⟩ := List.mem_iff_getElem?.mp hc
    exact Cell.out_ok (B.la.wf.cell i cell hi) 5
  refine dEq (n₁ := Φ₁) (n₂ := Φ₁) (.list hD hys) (fun p hp => mem_led hp) (.list (sub₁ _ hA) (has.mono sub₁)) (fun p hp => mem_led hp) hok hok fun b hb => ?_
  obtain rfl : b = true := hb.mpr rfl
  rfl

theorem law_ew {l : Addr} {vs : List Value} {ns : List Int} {o1 o2 o3 o4 : Obj} (hn : 20 ≤ c.n) (hs : SrcAt c Φ l vs) (hi : IntsAre vs ns) (hz : ns.length ≤ 63) (hL : Locs m [("script", .ref l)])
    (d1 : o1.data = .cell none) (d2 : o2.data = .cell none) (d3 : o3.data = .cell none) (d4 : o4.data = .cell none) :
    EW c (execs lawBody (lawEnv c.L fa cd)) m [(c.L + 4, o4), (c.L + 3, o3), (c.L + 2, o2), (c.L + 1, o1)] Φ (fun f _ _ _ => f = .ret (.bool true)) := by
  refine law_A hn hs hi hz hL d1 d2 d3 fun m1 Φ1 src so Dr H rows A hso => ?_
  refine law_B1 hn A fun m2 Φ2 Ad as na s2 hA has L2 => ?_
  have A2 := A.sub s2
  refine law_B2 hn A2 hso L2 fun m3 Φ3 Rd rs nr roots s3 hR hrs hrl hrt L3 => ?_
  have A3 := A2.sub s3
  refine law_B3 hR hrs hrl L3 fun m4 Φ4 Td ts nt s4 hT hts L4 => ?_
  refine law_B4 hn (s4 _ hR) hrs hrl hT hts L4 fun Φ5 s5 => ?_
  have s35 : ∀ p ∈ Φ3, p ∈ Φ5 := fun p hp => s5 p (s4 p hp)
  have s25 : ∀ p ∈ Φ2, p ∈ Φ5 := fun p hp => s35 p (s3 p hp)
  refine law_C hn (A3.sub s35) d4 (s25 _ hA) (has.mono s25) (s35 _ hR) hrs hrl hrt (s5 _ hT) (hts.mono s5) L4 fun m6 Φ6 k S B L6 => ?_
  refine law_D1 hn B L6 fun m7 Φ7 Mt ms nm met s7 hM hms hnd hiff L7 => ?_
  have B7 := B.sub s7
  refine law_D2 hn B7 hM hms hnd hiff L7 fun m8 Φ8 Et es ne s8 hE hes L8 => ?_
  have B8 := B7.sub s8
  refine law_E1 hn B8 (s8 _ hM) hms hnd hiff hE hes L8 fun Φ9 s9 => ?_
  have B9 := B8.sub s9
  refine law_E2 (ms := ms) (nm := nm) B9 hnd hiff (s9 _ hE) hes L8 fun Φa sa => ?_
  have Ba := B9.sub sa
  refine law_E3 hn Ba hiff (sa _ (s9 _ (s8 _ hM))) hms L8 fun mb Φb sb Lb => ?_
  have Bb := Ba.sub sb
  refine law_E4 hn Bb hiff (sb _ (sa _ (s9 _ hE))) hes Lb fun mc Φc sc Lc => ?_
  have Bc := Bb.sub sc
  refine law_E5 hn Bc Lc fun Φd sd => ?_
  exact law_E6 hn (Bc.sub sd) Lc
end

end

section
-- part LzEnd
theorem bridge {w : World} {s₁ : Shared} {h₁ : Heap} {tk : Nat} {L : Addr} {env : Env} {body : List Stmt} {m : Loc} {N4 : Led} {p : PySem.Program} {loose : List PySem.Str} {mean : ExcName → Option Value} {mg mb : PySem.Str → Option Value}
    {claim : ClaimW} {cl : PySem.Str → Option Addr} {means : ExcName → Option Value} {args : List WData} {E : Value → Shared → Prop}
    (T : Top p loose mean mg mb s₁.heap) (X : (hd.heap_39 w.params).In s₁.heap) (F : Fr s₁.heap L h₁ m) (N : News s₁.heap L h₁ N4) (nd : (N4.map (·.1)).Nodup) (hf : env.frame = some L) (hk : env.scope.kind = .function) (hg : s₁.gens = #[])
    (hraise : ∀ cls, claim.raises args cls = false) (hpost : claim.post args (.bool true) args = true)
    (h : ∀ c : Cx, c.w = w → c.h₀ = s₁.heap → c.L = L → 20 ≤ c.n → EW c (execs body env) m N4 [] (fun f _ _ _ => f = .ret (.bool true))) :
    wpAny (model prg w) (callerA.deeper env) (execs body env) (fun f s' => GoodW claim cl means args s₁ (.ok (.ret (match f with | .ret v => v | _ => .none))) s') E { s₁ with heap := h₁, toks := tk } := by
  let c : Cx := { w := w, A := callerA.deeper env, h₀ := s₁.heap, L := L, env := env, n := 20 }
  have K0 : Below callerA s₁.heap [] s₁.heap := below_caller (Top.heap T)
  have G : Good c := by
    refine ⟨⟨p, loose, mean, mg, mb, T⟩, X, ⟨callerA, _, [], K0, ?_⟩, hf, hk, rfl, ?_, ?_⟩
    · show (callerA.deeper env).frames = _
      unfold Around.deeper; rw [K0.stack]; rfl
    · show (callerA.deeper env).depth + 4 * 20 + 10 ≤ recursionLimit
      unfold Around.deeper; dsimp only
      decide +kernel
    · show (callerA.deeper env).units + 20 * 20 + 200 ≤ cLine
      unfold Around.deeper; dsimp only
      decide +kernel
  have S : Sat c m N4 [] { s₁ with heap := h₁, toks := tk } := ⟨F, by rw [List.append_nil]; exact N, ⟨nd, fun q hq => nomatch hq⟩⟩
  refine wpAny_mono ((h c rfl rfl rfl (Nat.le_refl _)).run G _ S) (fun f s' x => ?_) fun _ _ x => x.elim
  obtain ⟨m', M', Φ', h', tk', rfl, S', _, rfl⟩ := x
  exact goodW_bool S'.F hg hraise hpost rfl
theorem finish {w : World} {s₁ : Shared} {h₁ : Heap} {tk : Nat} {L fa l : Addr} {cd : Value} {vs : List Value} {ns : List Int} {o1 o2 o3 o4 : Obj} {m : Loc} {p : PySem.Program} {loose : List PySem.Str} {mean : ExcName → Option Value} {mg mb : PySem.Str → Option Value}
    {claim : ClaimW} {cl : PySem.Str → Option Addr} {means : ExcName → Option Value} {args : List WData} {E : Value → Shared → Prop}
    (T : Top p loose mean mg mb s₁.heap) (X : (hd.heap_39 w.params).In s₁.heap) (F : Fr s₁.heap L h₁ m) (N : News s₁.heap L h₁ [(L + 4, o4), (L + 3, o3), (L + 2, o2), (L + 1, o1)])
    (d1 : o1.data = .cell none) (d2 : o2.data = .cell none) (d3 : o3.data = .cell none) (d4 : o4.data = .cell none) (hl : s₁.heap.IsList l vs.toArray) (hi : IntsAre vs ns) (hz : ¬ ((63 : Nat) : Int) < ((ns.length : Nat) : Int)) (hL : m "script" = some (.ref l)) (hg : s₁.gens = #[])
    (hraise : ∀ cls, claim.raises args cls = false) (hpost : claim.post args (.bool true) args = true) :
    wpAny (model prg w) (callerA.deeper (lawEnv L fa cd)) (execs lawBody (lawEnv L fa cd)) (fun f s' => GoodW claim cl means args s₁ (.ok (.ret (match f with | .ret v => v | _ => .none))) s') E { s₁ with heap := h₁, toks := tk } := by
  refine bridge T X F N ?_ rfl (by with_unfolding_all rfl) hg hraise hpost fun c hw hh hcL hn => ?_
  · have : ∀ L : Nat, [L + 4, L + 3, L + 2, L + 1].Nodup := fun L => by simp
    exact this L
  · subst hcL
    refine law_ew hn ?_ hi (by omega) ⟨hL, trivial⟩ d1 d2 d3 d4
    obtain ⟨o, ho, hc, n, hd⟩ := hl
    exact ⟨o, ⟨hc, n, hd⟩, .inr (by rw [hh]; exact ho)⟩

end

end Lz
theorem PySem.Challenge.cw_np0229_01_holds : PySem.Challenge.rw_np0229_01.Holds := by
  refine holds_law LzT.said fun said => ?_
  refine holds_open (q := LzT.view) (loose := LzT.lse) (Xt := LzT.seen) (XP := XL LzT.view []) (Yf := Hook.obs LzT.HK) (Ya := Hook.val LzT.HK) (YP := Hook.says LzT.HK) (N := 6512) LzT.left (Hook.of LzT.HK) (Hook.keeps LzT.HK) (fun s e => xl_of s (Bool.and_eq_true_iff.mp e).1) XL.keeps (by rfl) (by rfl) (by rfl) (fun s e => recFacts_of (Bool.and_eq_true_iff.mp e).2) (by rfl) said LzT.free LzT.bare ?hw ?hc
  case hw => w_witness2
  w_strict (k_go0
            refine Lz.finish (by assumption) (by assumption) (by assumption) (by assumption) ?d1 ?d2 ?d3 ?d4 (by assumption) (by assumption) (by assumption) ?hL (by assumption) ?r ?p
            case d1 => refine Eq.trans (by assumption) (congrArg Data.cell ?_); as_aux_lemma => rfl
            case d2 => refine Eq.trans (by assumption) (congrArg Data.cell ?_); as_aux_lemma => rfl
            case d3 => refine Eq.trans (by assumption) (congrArg Data.cell ?_); as_aux_lemma => rfl
            case d4 => refine Eq.trans (by assumption) (congrArg Data.cell ?_); as_aux_lemma => rfl
            case hL => as_aux_lemma => rfl
            case r => intro _; as_aux_lemma => with_unfolding_all rfl
            case p => as_aux_lemma => with_unfolding_all rfl)
