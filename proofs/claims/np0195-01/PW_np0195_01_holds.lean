import PyProof.Rows.All
import Wide.All
import OpenK.AllK
import Wide.FinOn
import Lean
import PySem.Challenge.RW_np0195_01
set_option Elab.async false
set_option maxRecDepth 100000
set_option linter.unusedVariables false
set_option maxHeartbeats 8000000

section
open PySem PySem.W PySem.Calls PyProof.Rows
namespace Mine
noncomputable def dS : Stmt := .Pass ⟨0, 0, 0, 0⟩
noncomputable def PW : Program := PySem.Challenge.pw_np0195_01
noncomputable def PB : List Stmt := PW.main.body
noncomputable def fB (s : Stmt) : List Stmt := match s with
  | .FunctionDef _ _ b _ _ _ _ _ _ _ => b
  | .ClassDef _ _ _ b _ _ _ _ _ _ _ => b
  | _ => []
noncomputable def fA (s : Stmt) : Arguments := match s with
  | .FunctionDef _ a _ _ _ _ _ _ _ _ => a
  | _ => ⟨[], [], none, [], [], none, []⟩
noncomputable def fS (s : Stmt) : Scope := match s with
  | .FunctionDef _ _ _ _ _ _ s _ _ _ => s
  | _ => ⟨.module, [], false, false, []⟩
noncomputable def s1 : Stmt := PB.getD 1 dS
noncomputable def s1x0 : Stmt := (fB s1).getD 0 dS
noncomputable def s2 : Stmt := PB.getD 2 dS
noncomputable def s4 : Stmt := PB.getD 4 dS
noncomputable def s4x0 : Stmt := (fB s4).getD 0 dS
noncomputable def s4x1 : Stmt := (fB s4).getD 1 dS
noncomputable def s4x2 : Stmt := (fB s4).getD 2 dS
noncomputable def s4x3 : Stmt := (fB s4).getD 3 dS
noncomputable def s4x4 : Stmt := (fB s4).getD 4 dS
noncomputable def s4x5 : Stmt := (fB s4).getD 5 dS
noncomputable def s4x6 : Stmt := (fB s4).getD 6 dS
noncomputable def s4x7 : Stmt := (fB s4).getD 7 dS
noncomputable def s5 : Stmt := PB.getD 5 dS
noncomputable def s5x0 : Stmt := (fB s5).getD 0 dS
noncomputable def s5x1 : Stmt := (fB s5).getD 1 dS
noncomputable def s6 : Stmt := PB.getD 6 dS
noncomputable def s6x0 : Stmt := (fB s6).getD 0 dS
noncomputable def s6x1 : Stmt := (fB s6).getD 1 dS
noncomputable def s6x2 : Stmt := (fB s6).getD 2 dS
noncomputable def s6x3 : Stmt := (fB s6).getD 3 dS
noncomputable def s6x4 : Stmt := (fB s6).getD 4 dS
noncomputable def s6x5 : Stmt := (fB s6).getD 5 dS
noncomputable def s6x6 : Stmt := (fB s6).getD 6 dS
noncomputable def s6x7 : Stmt := (fB s6).getD 7 dS
noncomputable def s6x8 : Stmt := (fB s6).getD 8 dS
noncomputable def s6x9 : Stmt := (fB s6).getD 9 dS
noncomputable def s6x10 : Stmt := (fB s6).getD 10 dS
noncomputable def s6x11 : Stmt := (fB s6).getD 11 dS
noncomputable def s6x12 : Stmt := (fB s6).getD 12 dS
noncomputable def s6x13 : Stmt := (fB s6).getD 13 dS
noncomputable def s6x14 : Stmt := (fB s6).getD 14 dS
noncomputable def s6x15 : Stmt := (fB s6).getD 15 dS
noncomputable def s6x16 : Stmt := (fB s6).getD 16 dS
noncomputable def s6x17 : Stmt := (fB s6).getD 17 dS
noncomputable def s7 : Stmt := PB.getD 7 dS
noncomputable def s9 : Stmt := PB.getD 9 dS
noncomputable def s10 : Stmt := PB.getD 10 dS
noncomputable def s11 : Stmt := PB.getD 11 dS
noncomputable def s12 : Stmt := PB.getD 12 dS
noncomputable def s13 : Stmt := PB.getD 13 dS
noncomputable def s14 : Stmt := PB.getD 14 dS
noncomputable def s15 : Stmt := PB.getD 15 dS
noncomputable def s16 : Stmt := PB.getD 16 dS
noncomputable def s17 : Stmt := PB.getD 17 dS
noncomputable def s18 : Stmt := PB.getD 18 dS
noncomputable def s19 : Stmt := PB.getD 19 dS
noncomputable def of2 (P : Params) : Obj := ⟨.none, none, (.dict #[⟨(PySem.PyData.keyHash P (.ofString "type.__subclasses__.Exception.0")), (.str (.ofString "type.__subclasses__.Exception.0") 214), (.int 31 0)⟩, ⟨(PySem.PyData.keyHash P (.ofString "type.__subclasses__.Exception.n")), (.str (.ofString "type.__subclasses__.Exception.n") 215), (.int 1 0)⟩] 2), #[]⟩
noncomputable def of3 (P : Params) : Obj := ⟨(.type "dict"), none, (.dict #[⟨(PySem.PyData.keyHash P (.ofString "__name__")), (.str (.ofString "__name__") 165), (.str (.ofString "law_np0195_01") 559)⟩, ⟨(PySem.PyData.keyHash P (.ofString "__doc__")), (.str (.ofString "__doc__") 166), .none⟩, ⟨(PySem.PyData.keyHash P (.ofString "__package__")), (.str (.ofString "__package__") 167), .none⟩, ⟨(PySem.PyData.keyHash P (.ofString "__loader__")), (.str (.ofString "__loader__") 168), (.builtin "__main__.__loader__#opaque")⟩, ⟨(PySem.PyData.keyHash P (.ofString "__spec__")), (.str (.ofString "__spec__") 169), .none⟩, ⟨(PySem.PyData.keyHash P (.ofString "__annotations__")), (.str (.ofString "__annotations__") 170), (.ref 6)⟩, ⟨(PySem.PyData.keyHash P (.ofString "__builtins__")), (.str (.ofString "__builtins__") 171), (.ref 4)⟩, ⟨(PySem.PyData.keyHash P (.ofString "__file__")), (.str (.ofString "__file__") 173), (.str (.ofString "/claim/cut.py") 172)⟩, ⟨(PySem.PyData.keyHash P (.ofString "__cached__")), (.str (.ofString "__cached__") 174), .none⟩, ⟨(PySem.PyData.keyHash P (.ofString "PoolFault")), (.str (.ofString "PoolFault") 217), (.ref 31)⟩, ⟨(PySem.PyData.keyHash P (.ofString "Misused")), (.str (.ofString "Misused") 233), (.ref 44)⟩, ⟨(PySem.PyData.keyHash P (.ofString "Row")), (.str (.ofString "Row") 325), (.ref 110)⟩, ⟨(PySem.PyData.keyHash P (.ofString "Counts")), (.str (.ofString "Counts") 366), (.ref 138)⟩, ⟨(PySem.PyData.keyHash P (.ofString "Cache")), (.str (.ofString "Cache") 549), (.ref 273)⟩, ⟨(PySem.PyData.keyHash P (.ofString "step_of")), (.str (.ofString "step_of") 558), (.ref 284)⟩, ⟨(PySem.PyData.keyHash P (.ofString "_law_total")), (.str (.ofString "_law_total") 566), (.ref 289)⟩, ⟨(PySem.PyData.keyHash P (.ofString "_law_row")), (.str (.ofString "_law_row") 572), (.ref 294)⟩, ⟨(PySem.PyData.keyHash P (.ofString "_law_out")), (.str (.ofString "_law_out") 578), (.ref 299)⟩, ⟨(PySem.PyData.keyHash P (.ofString "_law_away")), (.str (.ofString "_law_away") 587), (.ref 306)⟩, ⟨(PySem.PyData.keyHash P (.ofString "_law_cut")), (.str (.ofString "_law_cut") 593), (.ref 311)⟩, ⟨(PySem.PyData.keyHash P (.ofString "_law_get")), (.str (.ofString "_law_get") 603), (.ref 318)⟩, ⟨(PySem.PyData.keyHash P (.ofString "_law_put")), (.str (.ofString "_law_put") 618), (.ref 325)⟩, ⟨(PySem.PyData.keyHash P (.ofString "_law_drop")), (.str (.ofString "_law_drop") 628), (.ref 332)⟩, ⟨(PySem.PyData.keyHash P (.ofString "_law_due")), (.str (.ofString "_law_due") 634), (.ref 337)⟩, ⟨(PySem.PyData.keyHash P (.ofString "_law_told")), (.str (.ofString "_law_told") 645), (.ref 344)⟩, ⟨(PySem.PyData.keyHash P (.ofString "law")), (.str (.ofString "law") 651), (.ref 349)⟩] 26), #[]⟩
noncomputable def of12 (P : Params) : Obj := ⟨.none, none, (.fields #[(.int 2 0), (.int 0 0), (.ref 20), (.int 7 0), (.int 0 0), (.ref 40), (.int 10 0), (.int 0 0), (.ref 52), (.int 49 0), (.int 0 0), (.ref 120), (.int 62 0), (.int 0 0), (.ref 148), (.int 195 0), (.int 0 0), (.ref 283), (.int 198 0), (.int 0 0), (.ref 288), (.int 200 0), (.int 0 0), (.ref 293), (.int 203 0), (.int 0 0), (.ref 298), (.int 212 0), (.int 0 0), (.ref 305), (.int 216 0), (.int 0 0), (.ref 310), (.int 221 0), (.int 0 0), (.ref 317), (.int 230 0), (.int 0 0), (.ref 324), (.int 246 0), (.int 0 0), (.ref 331), (.int 252 0), (.int 0 0), (.ref 336), (.int 290 0), (.int 0 0), (.ref 343), (.int 305 0), (.int 0 0), (.ref 348)]), #[]⟩
noncomputable def of13 (P : Params) : Obj := ⟨(.type "code"), none, (.fields #[(.str (.ofString "<module>") 182), (.str (.ofString "<module>") 183), (.str (.ofString "/claim/cut.py") 184), (.int 1 0), (.int 0 0), (.int 0 0), (.int 0 0), (.int 0 0), (.ref 11), (.bool false), (.int 181 0), (.ref 12), .none, .none, .none, .none, (.int 185 0), (.int 1 0), (.str (.ofString "/claim/cut.py") 186)]), #[]⟩
noncomputable def of14 (P : Params) : Obj := ⟨(.type "frame"), none, .plain, #[(some (.ref 13)), (some (.ref 3)), (some (.ref 3)), none, (some (.str (.ofString "__main__") 164)), none, (some (.ref 0))]⟩
noncomputable def of15 (P : Params) : Obj := ⟨(.type "tuple"), none, (.seq #[(.type "Exception")] 0), #[]⟩
noncomputable def of16 (P : Params) : Obj := ⟨(.type "builtin_function_or_method"), none, (.fields #[(.builtin "type.__prepare__"), (.type "type")]), #[]⟩
noncomputable def of17 (P : Params) : Obj := ⟨(.type "dict"), none, (.dict #[⟨(PySem.PyData.keyHash P (.ofString "__module__")), (.str (.ofString "__module__") 196), (.str (.ofString "treepool.faults") 187)⟩, ⟨(PySem.PyData.keyHash P (.ofString "__qualname__")), (.str (.ofString "__qualname__") 198), (.str (.ofString "PoolFault") 197)⟩, ⟨(PySem.PyData.keyHash P (.ofString "__firstlineno__")), (.str (.ofString "__firstlineno__") 200), (.int 2 199)⟩, ⟨(PySem.PyData.keyHash P (.ofString "__init__")), (.str (.ofString "__init__") 208), (.ref 28)⟩, ⟨(PySem.PyData.keyHash P (.ofString "__static_attributes__")), (.str (.ofString "__static_attributes__") 210), (.ref 29)⟩] 5), #[]⟩
noncomputable def of19 (P : Params) : Obj := ⟨.none, none, (.fields #[(.int 4 0), (.int 4 0), (.ref 27)]), #[]⟩
noncomputable def of20 (P : Params) : Obj := ⟨(.type "code"), none, (.fields #[(.str (.ofString "PoolFault") 191), (.str (.ofString "PoolFault") 192), (.str (.ofString "/claim/cut.py") 193), (.int 2 0), (.int 0 0), (.int 0 0), (.int 0 0), (.int 0 0), (.ref 18), (.bool false), (.int 181 0), (.ref 19), .none, .none, .none, .none, (.int 194 0), (.int 2 0), (.str (.ofString "/claim/cut.py") 195)]), #[]⟩
noncomputable def of21 (P : Params) : Obj := ⟨(.type "frame"), none, .plain, #[(some (.ref 20)), (some (.ref 3)), (some (.ref 17)), none, (some (.str (.ofString "treepool.faults") 187)), none, (some (.ref 0))]⟩
noncomputable def of24 (P : Params) : Obj := ⟨(.type "tuple"), none, (.seq #[(.str (.ofString "self") 204), (.str (.ofString "why") 205)] 0), #[]⟩
noncomputable def of26 (P : Params) : Obj := ⟨.none, none, (.func ⟨(.ofString "__init__"), (.ofString "PoolFault.__init__"), (fA s1x0), (.stmts (fB s1x0)), (fS s1x0), 0, [], .none, .none, .none, .none, none, .none, .none, 0⟩), #[]⟩
noncomputable def of27 (P : Params) : Obj := ⟨(.type "code"), none, (.fields #[(.str (.ofString "__init__") 201), (.str (.ofString "PoolFault.__init__") 202), (.str (.ofString "/claim/cut.py") 203), (.int 4 0), (.int 2 0), (.int 0 0), (.int 0 0), (.int 3 0), (.ref 22), (.bool true), (.int 181 0), (.ref 23), .none, (.ref 24), (.ref 25), (.ref 26), (.int 206 0), (.int 4 0), (.str (.ofString "/claim/cut.py") 207)]), #[]⟩
noncomputable def of28 (P : Params) : Obj := ⟨(.type "function"), none, (.func ⟨(.ofString "__init__"), (.ofString "PoolFault.__init__"), (fA s1x0), (.stmts (fB s1x0)), (fS s1x0), 3, [], .none, .none, .none, (.str (.ofString "treepool.faults") 187), none, (.ref 27), .none, 0⟩), #[]⟩
noncomputable def of29 (P : Params) : Obj := ⟨(.type "tuple"), none, (.seq #[(.str (.ofString "why") 209)] 0), #[]⟩
noncomputable def of30 (P : Params) : Obj := ⟨(.type "dict"), none, (.dict #[⟨(PySem.PyData.keyHash P (.ofString "__module__")), (.str (.ofString "__module__") 196), (.str (.ofString "treepool.faults") 187)⟩, ⟨(PySem.PyData.keyHash P (.ofString "__firstlineno__")), (.str (.ofString "__firstlineno__") 200), (.int 2 199)⟩, ⟨(PySem.PyData.keyHash P (.ofString "__init__")), (.str (.ofString "__init__") 208), (.ref 28)⟩, ⟨(PySem.PyData.keyHash P (.ofString "__static_attributes__")), (.str (.ofString "__static_attributes__") 210), (.ref 29)⟩, ⟨(PySem.PyData.keyHash P (.ofString "__weakref__")), (.str (.ofString "__weakref__") 212), (.ref 32)⟩, ⟨(PySem.PyData.keyHash P (.ofString "__doc__")), (.str (.ofString "__doc__") 213), .none⟩] 3), #[]⟩
noncomputable def of31 (P : Params) : Obj := ⟨(.type "type"), none, (.cls ⟨(.ofString "PoolFault"), [(.type "Exception")], [(.ref 31), (.type "Exception"), (.type "BaseException"), (.type "object")], 30, (.ofString "PoolFault"), true, [], [(.ref 44)], false, none, false⟩), #[(some (.ref 15)), none, (some (.str (.ofString "PoolFault") 189)), (some (.str (.ofString "PoolFault") 197)), (some (.builtin "Exception.__new__")), (some (.bool true))]⟩
noncomputable def of32 (P : Params) : Obj := ⟨(.type "getset_descriptor"), none, (.fields #[(.str (.ofString "__weakref__") 211), (.ref 31), (.builtin "ExceptionGroup.__weakref__"), .none]), #[]⟩
noncomputable def of33 (P : Params) : Obj := ⟨(.type "super"), none, (.fields #[(.ref 31), (.ref 31), (.ref 31)]), #[]⟩
noncomputable def of34 (P : Params) : Obj := ⟨(.type "builtin_function_or_method"), none, (.fields #[(.builtin "object.__init_subclass__"), (.ref 31)]), #[]⟩
noncomputable def of35 (P : Params) : Obj := ⟨(.type "tuple"), none, (.seq #[(.ref 31)] 0), #[]⟩
noncomputable def of37 (P : Params) : Obj := ⟨(.type "dict"), none, (.dict #[⟨(PySem.PyData.keyHash P (.ofString "__module__")), (.str (.ofString "__module__") 225), (.str (.ofString "treepool.faults") 187)⟩, ⟨(PySem.PyData.keyHash P (.ofString "__qualname__")), (.str (.ofString "__qualname__") 227), (.str (.ofString "Misused") 226)⟩, ⟨(PySem.PyData.keyHash P (.ofString "__firstlineno__")), (.str (.ofString "__firstlineno__") 229), (.int 7 228)⟩, ⟨(PySem.PyData.keyHash P (.ofString "__static_attributes__")), (.str (.ofString "__static_attributes__") 230), (.ref 42)⟩] 4), #[]⟩
noncomputable def of40 (P : Params) : Obj := ⟨(.type "code"), none, (.fields #[(.str (.ofString "Misused") 220), (.str (.ofString "Misused") 221), (.str (.ofString "/claim/cut.py") 222), (.int 7 0), (.int 0 0), (.int 0 0), (.int 0 0), (.int 0 0), (.ref 38), (.bool false), (.int 181 0), (.ref 39), .none, .none, .none, .none, (.int 223 0), (.int 7 0), (.str (.ofString "/claim/cut.py") 224)]), #[]⟩
noncomputable def of41 (P : Params) : Obj := ⟨(.type "frame"), none, .plain, #[(some (.ref 40)), (some (.ref 3)), (some (.ref 37)), none, (some (.str (.ofString "treepool.faults") 187)), none, (some (.ref 0))]⟩
noncomputable def of43 (P : Params) : Obj := ⟨(.type "dict"), none, (.dict #[⟨(PySem.PyData.keyHash P (.ofString "__module__")), (.str (.ofString "__module__") 225), (.str (.ofString "treepool.faults") 187)⟩, ⟨(PySem.PyData.keyHash P (.ofString "__firstlineno__")), (.str (.ofString "__firstlineno__") 229), (.int 7 228)⟩, ⟨(PySem.PyData.keyHash P (.ofString "__static_attributes__")), (.str (.ofString "__static_attributes__") 230), (.ref 42)⟩, ⟨(PySem.PyData.keyHash P (.ofString "__doc__")), (.str (.ofString "__doc__") 231), .none⟩] 2), #[]⟩
noncomputable def of44 (P : Params) : Obj := ⟨(.type "type"), none, (.cls ⟨(.ofString "Misused"), [(.ref 31)], [(.ref 44), (.ref 31), (.type "Exception"), (.type "BaseException"), (.type "object")], 43, (.ofString "Misused"), true, [], [], false, none, false⟩), #[(some (.ref 35)), none, (some (.str (.ofString "Misused") 218)), (some (.str (.ofString "Misused") 226)), (some (.builtin "Exception.__new__")), (some (.bool true))]⟩
noncomputable def of45 (P : Params) : Obj := ⟨(.type "super"), none, (.fields #[(.ref 44), (.ref 44), (.ref 44)]), #[]⟩
noncomputable def of46 (P : Params) : Obj := ⟨(.type "builtin_function_or_method"), none, (.fields #[(.builtin "object.__init_subclass__"), (.ref 44)]), #[]⟩
noncomputable def of49 (P : Params) : Obj := ⟨(.type "dict"), none, (.dict #[⟨(PySem.PyData.keyHash P (.ofString "__module__")), (.str (.ofString "__module__") 243), (.str (.ofString "treepool.cache") 234)⟩, ⟨(PySem.PyData.keyHash P (.ofString "__qualname__")), (.str (.ofString "__qualname__") 245), (.str (.ofString "Row") 244)⟩, ⟨(PySem.PyData.keyHash P (.ofString "__firstlineno__")), (.str (.ofString "__firstlineno__") 247), (.int 10 246)⟩, ⟨(PySem.PyData.keyHash P (.ofString "__init__")), (.str (.ofString "__init__") 254), (.ref 60)⟩, ⟨(PySem.PyData.keyHash P (.ofString "__len__")), (.str (.ofString "__len__") 261), (.ref 67)⟩, ⟨(PySem.PyData.keyHash P (.ofString "has")), (.str (.ofString "has") 269), (.ref 74)⟩, ⟨(PySem.PyData.keyHash P (.ofString "add")), (.str (.ofString "add") 279), (.ref 81)⟩, ⟨(PySem.PyData.keyHash P (.ofString "take")), (.str (.ofString "take") 288), (.ref 88)⟩, ⟨(PySem.PyData.keyHash P (.ofString "touch")), (.str (.ofString "touch") 298), (.ref 95)⟩, ⟨(PySem.PyData.keyHash P (.ofString "oldest")), (.str (.ofString "oldest") 307), (.ref 102)⟩, ⟨(PySem.PyData.keyHash P (.ofString "plain")), (.str (.ofString "plain") 313), (.ref 107)⟩, ⟨(PySem.PyData.keyHash P (.ofString "__static_attributes__")), (.str (.ofString "__static_attributes__") 318), (.ref 108)⟩] 12), #[]⟩
noncomputable def of51 (P : Params) : Obj := ⟨.none, none, (.fields #[(.int 12 0), (.int 4 0), (.ref 59), (.int 18 0), (.int 4 0), (.ref 66), (.int 21 0), (.int 4 0), (.ref 73), (.int 24 0), (.int 4 0), (.ref 80), (.int 30 0), (.int 4 0), (.ref 87), (.int 36 0), (.int 4 0), (.ref 94), (.int 41 0), (.int 4 0), (.ref 101), (.int 47 0), (.int 4 0), (.ref 106)]), #[]⟩
noncomputable def of52 (P : Params) : Obj := ⟨(.type "code"), none, (.fields #[(.str (.ofString "Row") 238), (.str (.ofString "Row") 239), (.str (.ofString "/claim/cut.py") 240), (.int 10 0), (.int 0 0), (.int 0 0), (.int 0 0), (.int 0 0), (.ref 50), (.bool false), (.int 181 0), (.ref 51), .none, .none, .none, .none, (.int 241 0), (.int 10 0), (.str (.ofString "/claim/cut.py") 242)]), #[]⟩
noncomputable def of53 (P : Params) : Obj := ⟨(.type "frame"), none, .plain, #[(some (.ref 52)), (some (.ref 3)), (some (.ref 49)), none, (some (.str (.ofString "treepool.cache") 234)), none, (some (.ref 0))]⟩
noncomputable def of56 (P : Params) : Obj := ⟨(.type "tuple"), none, (.seq #[(.str (.ofString "self") 251)] 0), #[]⟩
noncomputable def of58 (P : Params) : Obj := ⟨.none, none, (.func ⟨(.ofString "__init__"), (.ofString "Row.__init__"), (fA s4x0), (.stmts (fB s4x0)), (fS s6x8), 0, [], .none, .none, .none, .none, none, .none, .none, 0⟩), #[]⟩
noncomputable def of59 (P : Params) : Obj := ⟨(.type "code"), none, (.fields #[(.str (.ofString "__init__") 248), (.str (.ofString "Row.__init__") 249), (.str (.ofString "/claim/cut.py") 250), (.int 12 0), (.int 1 0), (.int 0 0), (.int 0 0), (.int 3 0), (.ref 54), (.bool true), (.int 181 0), (.ref 55), .none, (.ref 56), (.ref 57), (.ref 58), (.int 252 0), (.int 12 0), (.str (.ofString "/claim/cut.py") 253)]), #[]⟩
noncomputable def of60 (P : Params) : Obj := ⟨(.type "function"), none, (.func ⟨(.ofString "__init__"), (.ofString "Row.__init__"), (fA s4x0), (.stmts (fB s4x0)), (fS s6x8), 3, [], .none, .none, .none, (.str (.ofString "treepool.cache") 234), none, (.ref 59), .none, 0⟩), #[]⟩
noncomputable def of63 (P : Params) : Obj := ⟨(.type "tuple"), none, (.seq #[(.str (.ofString "self") 258)] 0), #[]⟩
noncomputable def of65 (P : Params) : Obj := ⟨.none, none, (.func ⟨(.ofString "__len__"), (.ofString "Row.__len__"), (fA s4x1), (.stmts (fB s4x1)), (fS s4x1), 0, [], .none, .none, .none, .none, none, .none, .none, 0⟩), #[]⟩
noncomputable def of66 (P : Params) : Obj := ⟨(.type "code"), none, (.fields #[(.str (.ofString "__len__") 255), (.str (.ofString "Row.__len__") 256), (.str (.ofString "/claim/cut.py") 257), (.int 18 0), (.int 1 0), (.int 0 0), (.int 0 0), (.int 3 0), (.ref 61), (.bool true), (.int 181 0), (.ref 62), .none, (.ref 63), (.ref 64), (.ref 65), (.int 259 0), (.int 18 0), (.str (.ofString "/claim/cut.py") 260)]), #[]⟩
noncomputable def of67 (P : Params) : Obj := ⟨(.type "function"), none, (.func ⟨(.ofString "__len__"), (.ofString "Row.__len__"), (fA s4x1), (.stmts (fB s4x1)), (fS s4x1), 3, [], .none, .none, .none, (.str (.ofString "treepool.cache") 234), none, (.ref 66), .none, 0⟩), #[]⟩
noncomputable def of70 (P : Params) : Obj := ⟨(.type "tuple"), none, (.seq #[(.str (.ofString "self") 265), (.str (.ofString "key") 266)] 0), #[]⟩
noncomputable def of72 (P : Params) : Obj := ⟨.none, none, (.func ⟨(.ofString "has"), (.ofString "Row.has"), (fA s4x2), (.stmts (fB s4x2)), (fS s6x1), 0, [], .none, .none, .none, .none, none, .none, .none, 0⟩), #[]⟩
noncomputable def of73 (P : Params) : Obj := ⟨(.type "code"), none, (.fields #[(.str (.ofString "has") 262), (.str (.ofString "Row.has") 263), (.str (.ofString "/claim/cut.py") 264), (.int 21 0), (.int 2 0), (.int 0 0), (.int 0 0), (.int 3 0), (.ref 68), (.bool true), (.int 181 0), (.ref 69), .none, (.ref 70), (.ref 71), (.ref 72), (.int 267 0), (.int 21 0), (.str (.ofString "/claim/cut.py") 268)]), #[]⟩
noncomputable def of74 (P : Params) : Obj := ⟨(.type "function"), none, (.func ⟨(.ofString "has"), (.ofString "Row.has"), (fA s4x2), (.stmts (fB s4x2)), (fS s6x1), 3, [], .none, .none, .none, (.str (.ofString "treepool.cache") 234), none, (.ref 73), .none, 0⟩), #[]⟩
noncomputable def of77 (P : Params) : Obj := ⟨(.type "tuple"), none, (.seq #[(.str (.ofString "self") 273), (.str (.ofString "key") 274), (.str (.ofString "value") 275), (.str (.ofString "size") 276)] 0), #[]⟩
noncomputable def of79 (P : Params) : Obj := ⟨.none, none, (.func ⟨(.ofString "add"), (.ofString "Row.add"), (fA s4x3), (.stmts (fB s4x3)), (fS s6x11), 0, [], .none, .none, .none, .none, none, .none, .none, 0⟩), #[]⟩
noncomputable def of80 (P : Params) : Obj := ⟨(.type "code"), none, (.fields #[(.str (.ofString "add") 270), (.str (.ofString "Row.add") 271), (.str (.ofString "/claim/cut.py") 272), (.int 24 0), (.int 4 0), (.int 0 0), (.int 0 0), (.int 3 0), (.ref 75), (.bool true), (.int 181 0), (.ref 76), .none, (.ref 77), (.ref 78), (.ref 79), (.int 277 0), (.int 24 0), (.str (.ofString "/claim/cut.py") 278)]), #[]⟩
noncomputable def of81 (P : Params) : Obj := ⟨(.type "function"), none, (.func ⟨(.ofString "add"), (.ofString "Row.add"), (fA s4x3), (.stmts (fB s4x3)), (fS s6x11), 3, [], .none, .none, .none, (.str (.ofString "treepool.cache") 234), none, (.ref 80), .none, 0⟩), #[]⟩
noncomputable def of84 (P : Params) : Obj := ⟨(.type "tuple"), none, (.seq #[(.str (.ofString "self") 283), (.str (.ofString "key") 284), (.str (.ofString "size") 285)] 0), #[]⟩
noncomputable def of86 (P : Params) : Obj := ⟨.none, none, (.func ⟨(.ofString "take"), (.ofString "Row.take"), (fA s4x4), (.stmts (fB s4x4)), (fS s4x4), 0, [], .none, .none, .none, .none, none, .none, .none, 0⟩), #[]⟩
noncomputable def of87 (P : Params) : Obj := ⟨(.type "code"), none, (.fields #[(.str (.ofString "take") 280), (.str (.ofString "Row.take") 281), (.str (.ofString "/claim/cut.py") 282), (.int 30 0), (.int 2 0), (.int 0 0), (.int 0 0), (.int 3 0), (.ref 82), (.bool true), (.int 181 0), (.ref 83), .none, (.ref 84), (.ref 85), (.ref 86), (.int 286 0), (.int 30 0), (.str (.ofString "/claim/cut.py") 287)]), #[]⟩
noncomputable def of88 (P : Params) : Obj := ⟨(.type "function"), none, (.func ⟨(.ofString "take"), (.ofString "Row.take"), (fA s4x4), (.stmts (fB s4x4)), (fS s4x4), 3, [], .none, .none, .none, (.str (.ofString "treepool.cache") 234), none, (.ref 87), .none, 0⟩), #[]⟩
noncomputable def of91 (P : Params) : Obj := ⟨(.type "tuple"), none, (.seq #[(.str (.ofString "self") 292), (.str (.ofString "key") 293), (.str (.ofString "value") 294), (.str (.ofString "size") 295)] 0), #[]⟩
noncomputable def of93 (P : Params) : Obj := ⟨.none, none, (.func ⟨(.ofString "touch"), (.ofString "Row.touch"), (fA s4x5), (.stmts (fB s4x5)), (fS s6x11), 0, [], .none, .none, .none, .none, none, .none, .none, 0⟩), #[]⟩
noncomputable def of94 (P : Params) : Obj := ⟨(.type "code"), none, (.fields #[(.str (.ofString "touch") 289), (.str (.ofString "Row.touch") 290), (.str (.ofString "/claim/cut.py") 291), (.int 36 0), (.int 2 0), (.int 0 0), (.int 0 0), (.int 3 0), (.ref 89), (.bool true), (.int 181 0), (.ref 90), .none, (.ref 91), (.ref 92), (.ref 93), (.int 296 0), (.int 36 0), (.str (.ofString "/claim/cut.py") 297)]), #[]⟩
noncomputable def of95 (P : Params) : Obj := ⟨(.type "function"), none, (.func ⟨(.ofString "touch"), (.ofString "Row.touch"), (fA s4x5), (.stmts (fB s4x5)), (fS s6x11), 3, [], .none, .none, .none, (.str (.ofString "treepool.cache") 234), none, (.ref 94), .none, 0⟩), #[]⟩
noncomputable def of98 (P : Params) : Obj := ⟨(.type "tuple"), none, (.seq #[(.str (.ofString "self") 302), (.str (.ofString "held") 303), (.str (.ofString "key") 304)] 0), #[]⟩
noncomputable def of100 (P : Params) : Obj := ⟨.none, none, (.func ⟨(.ofString "oldest"), (.ofString "Row.oldest"), (fA s4x6), (.stmts (fB s4x6)), (fS s4x6), 0, [], .none, .none, .none, .none, none, .none, .none, 0⟩), #[]⟩
noncomputable def of101 (P : Params) : Obj := ⟨(.type "code"), none, (.fields #[(.str (.ofString "oldest") 299), (.str (.ofString "Row.oldest") 300), (.str (.ofString "/claim/cut.py") 301), (.int 41 0), (.int 2 0), (.int 0 0), (.int 0 0), (.int 3 0), (.ref 96), (.bool true), (.int 181 0), (.ref 97), .none, (.ref 98), (.ref 99), (.ref 100), (.int 305 0), (.int 41 0), (.str (.ofString "/claim/cut.py") 306)]), #[]⟩
noncomputable def of102 (P : Params) : Obj := ⟨(.type "function"), none, (.func ⟨(.ofString "oldest"), (.ofString "Row.oldest"), (fA s4x6), (.stmts (fB s4x6)), (fS s4x6), 3, [], .none, .none, .none, (.str (.ofString "treepool.cache") 234), none, (.ref 101), .none, 0⟩), #[]⟩
noncomputable def of105 (P : Params) : Obj := ⟨.none, none, (.func ⟨(.ofString "plain"), (.ofString "Row.plain"), (fA s4x7), (.stmts (fB s4x7)), (fS s4x7), 0, [], .none, .none, .none, .none, none, .none, .none, 0⟩), #[]⟩
noncomputable def of106 (P : Params) : Obj := ⟨(.type "code"), none, (.fields #[(.str (.ofString "plain") 308), (.str (.ofString "Row.plain") 309), (.str (.ofString "/claim/cut.py") 310), (.int 47 0), (.int 1 0), (.int 0 0), (.int 0 0), (.int 3 0), (.ref 103), (.bool true), (.int 181 0), (.ref 104), .none, .none, .none, (.ref 105), (.int 311 0), (.int 47 0), (.str (.ofString "/claim/cut.py") 312)]), #[]⟩
noncomputable def of107 (P : Params) : Obj := ⟨(.type "function"), none, (.func ⟨(.ofString "plain"), (.ofString "Row.plain"), (fA s4x7), (.stmts (fB s4x7)), (fS s4x7), 3, [], .none, .none, .none, (.str (.ofString "treepool.cache") 234), none, (.ref 106), .none, 0⟩), #[]⟩
noncomputable def of108 (P : Params) : Obj := ⟨(.type "tuple"), none, (.seq #[(.str (.ofString "keys") 314), (.str (.ofString "sizes") 315), (.str (.ofString "total") 316), (.str (.ofString "values") 317)] 0), #[]⟩
noncomputable def of109 (P : Params) : Obj := ⟨(.type "dict"), none, (.dict #[⟨(PySem.PyData.keyHash P (.ofString "__module__")), (.str (.ofString "__module__") 243), (.str (.ofString "treepool.cache") 234)⟩, ⟨(PySem.PyData.keyHash P (.ofString "__firstlineno__")), (.str (.ofString "__firstlineno__") 247), (.int 10 246)⟩, ⟨(PySem.PyData.keyHash P (.ofString "__init__")), (.str (.ofString "__init__") 254), (.ref 60)⟩, ⟨(PySem.PyData.keyHash P (.ofString "__len__")), (.str (.ofString "__len__") 261), (.ref 67)⟩, ⟨(PySem.PyData.keyHash P (.ofString "has")), (.str (.ofString "has") 269), (.ref 74)⟩, ⟨(PySem.PyData.keyHash P (.ofString "add")), (.str (.ofString "add") 279), (.ref 81)⟩, ⟨(PySem.PyData.keyHash P (.ofString "take")), (.str (.ofString "take") 288), (.ref 88)⟩, ⟨(PySem.PyData.keyHash P (.ofString "touch")), (.str (.ofString "touch") 298), (.ref 95)⟩, ⟨(PySem.PyData.keyHash P (.ofString "oldest")), (.str (.ofString "oldest") 307), (.ref 102)⟩, ⟨(PySem.PyData.keyHash P (.ofString "plain")), (.str (.ofString "plain") 313), (.ref 107)⟩, ⟨(PySem.PyData.keyHash P (.ofString "__static_attributes__")), (.str (.ofString "__static_attributes__") 318), (.ref 108)⟩, ⟨(PySem.PyData.keyHash P (.ofString "__dict__")), (.str (.ofString "__dict__") 320), (.ref 111)⟩, ⟨(PySem.PyData.keyHash P (.ofString "__weakref__")), (.str (.ofString "__weakref__") 322), (.ref 112)⟩, ⟨(PySem.PyData.keyHash P (.ofString "__doc__")), (.str (.ofString "__doc__") 323), .none⟩] 4), #[]⟩
noncomputable def of110 (P : Params) : Obj := ⟨(.type "type"), none, (.cls ⟨(.ofString "Row"), [(.type "object")], [(.ref 110), (.type "object")], 109, (.ofString "Row"), true, [], [], false, none, false⟩), #[none, none, (some (.str (.ofString "Row") 236)), (some (.str (.ofString "Row") 244)), (some (.builtin "object.__new__")), (some (.bool true))]⟩
noncomputable def of111 (P : Params) : Obj := ⟨(.type "getset_descriptor"), none, (.fields #[(.str (.ofString "__dict__") 319), (.ref 110), (.builtin "function.__dict__"), (.builtin "function.__dict__#set")]), #[]⟩
noncomputable def of112 (P : Params) : Obj := ⟨(.type "getset_descriptor"), none, (.fields #[(.str (.ofString "__weakref__") 321), (.ref 110), (.builtin "ExceptionGroup.__weakref__"), .none]), #[]⟩
noncomputable def of113 (P : Params) : Obj := ⟨(.type "super"), none, (.fields #[(.ref 110), (.ref 110), (.ref 110)]), #[]⟩
noncomputable def of114 (P : Params) : Obj := ⟨(.type "builtin_function_or_method"), none, (.fields #[(.builtin "object.__init_subclass__"), (.ref 110)]), #[]⟩
noncomputable def of117 (P : Params) : Obj := ⟨(.type "dict"), none, (.dict #[⟨(PySem.PyData.keyHash P (.ofString "__module__")), (.str (.ofString "__module__") 333), (.str (.ofString "treepool.cache") 234)⟩, ⟨(PySem.PyData.keyHash P (.ofString "__qualname__")), (.str (.ofString "__qualname__") 335), (.str (.ofString "Counts") 334)⟩, ⟨(PySem.PyData.keyHash P (.ofString "__firstlineno__")), (.str (.ofString "__firstlineno__") 337), (.int 49 336)⟩, ⟨(PySem.PyData.keyHash P (.ofString "__init__")), (.str (.ofString "__init__") 344), (.ref 128)⟩, ⟨(PySem.PyData.keyHash P (.ofString "plain")), (.str (.ofString "plain") 352), (.ref 135)⟩, ⟨(PySem.PyData.keyHash P (.ofString "__static_attributes__")), (.str (.ofString "__static_attributes__") 359), (.ref 136)⟩] 6), #[]⟩
noncomputable def of119 (P : Params) : Obj := ⟨.none, none, (.fields #[(.int 51 0), (.int 4 0), (.ref 127), (.int 59 0), (.int 4 0), (.ref 134)]), #[]⟩
noncomputable def of120 (P : Params) : Obj := ⟨(.type "code"), none, (.fields #[(.str (.ofString "Counts") 328), (.str (.ofString "Counts") 329), (.str (.ofString "/claim/cut.py") 330), (.int 49 0), (.int 0 0), (.int 0 0), (.int 0 0), (.int 0 0), (.ref 118), (.bool false), (.int 181 0), (.ref 119), .none, .none, .none, .none, (.int 331 0), (.int 49 0), (.str (.ofString "/claim/cut.py") 332)]), #[]⟩
noncomputable def of121 (P : Params) : Obj := ⟨(.type "frame"), none, .plain, #[(some (.ref 120)), (some (.ref 3)), (some (.ref 117)), none, (some (.str (.ofString "treepool.cache") 234)), none, (some (.ref 0))]⟩
noncomputable def of124 (P : Params) : Obj := ⟨(.type "tuple"), none, (.seq #[(.str (.ofString "self") 341)] 0), #[]⟩
noncomputable def of126 (P : Params) : Obj := ⟨.none, none, (.func ⟨(.ofString "__init__"), (.ofString "Counts.__init__"), (fA s5x0), (.stmts (fB s5x0)), (fS s6x8), 0, [], .none, .none, .none, .none, none, .none, .none, 0⟩), #[]⟩
noncomputable def of127 (P : Params) : Obj := ⟨(.type "code"), none, (.fields #[(.str (.ofString "__init__") 338), (.str (.ofString "Counts.__init__") 339), (.str (.ofString "/claim/cut.py") 340), (.int 51 0), (.int 1 0), (.int 0 0), (.int 0 0), (.int 3 0), (.ref 122), (.bool true), (.int 181 0), (.ref 123), .none, (.ref 124), (.ref 125), (.ref 126), (.int 342 0), (.int 51 0), (.str (.ofString "/claim/cut.py") 343)]), #[]⟩
noncomputable def of128 (P : Params) : Obj := ⟨(.type "function"), none, (.func ⟨(.ofString "__init__"), (.ofString "Counts.__init__"), (fA s5x0), (.stmts (fB s5x0)), (fS s6x8), 3, [], .none, .none, .none, (.str (.ofString "treepool.cache") 234), none, (.ref 127), .none, 0⟩), #[]⟩
noncomputable def of131 (P : Params) : Obj := ⟨(.type "tuple"), none, (.seq #[(.str (.ofString "self") 348), (.str (.ofString "hits") 349)] 0), #[]⟩
noncomputable def of133 (P : Params) : Obj := ⟨.none, none, (.func ⟨(.ofString "plain"), (.ofString "Counts.plain"), (fA s5x1), (.stmts (fB s5x1)), (fS s5x1), 0, [], .none, .none, .none, .none, none, .none, .none, 0⟩), #[]⟩
noncomputable def of134 (P : Params) : Obj := ⟨(.type "code"), none, (.fields #[(.str (.ofString "plain") 345), (.str (.ofString "Counts.plain") 346), (.str (.ofString "/claim/cut.py") 347), (.int 59 0), (.int 1 0), (.int 0 0), (.int 0 0), (.int 3 0), (.ref 129), (.bool true), (.int 181 0), (.ref 130), .none, (.ref 131), (.ref 132), (.ref 133), (.int 350 0), (.int 59 0), (.str (.ofString "/claim/cut.py") 351)]), #[]⟩
noncomputable def of135 (P : Params) : Obj := ⟨(.type "function"), none, (.func ⟨(.ofString "plain"), (.ofString "Counts.plain"), (fA s5x1), (.stmts (fB s5x1)), (fS s5x1), 3, [], .none, .none, .none, (.str (.ofString "treepool.cache") 234), none, (.ref 134), .none, 0⟩), #[]⟩
noncomputable def of136 (P : Params) : Obj := ⟨(.type "tuple"), none, (.seq #[(.str (.ofString "misses") 353), (.str (.ofString "often_hits") 354), (.str (.ofString "often_shadows") 355), (.str (.ofString "put_out") 356), (.str (.ofString "recent_hits") 357), (.str (.ofString "recent_shadows") 358)] 0), #[]⟩
noncomputable def of137 (P : Params) : Obj := ⟨(.type "dict"), none, (.dict #[⟨(PySem.PyData.keyHash P (.ofString "__module__")), (.str (.ofString "__module__") 333), (.str (.ofString "treepool.cache") 234)⟩, ⟨(PySem.PyData.keyHash P (.ofString "__firstlineno__")), (.str (.ofString "__firstlineno__") 337), (.int 49 336)⟩, ⟨(PySem.PyData.keyHash P (.ofString "__init__")), (.str (.ofString "__init__") 344), (.ref 128)⟩, ⟨(PySem.PyData.keyHash P (.ofString "plain")), (.str (.ofString "plain") 352), (.ref 135)⟩, ⟨(PySem.PyData.keyHash P (.ofString "__static_attributes__")), (.str (.ofString "__static_attributes__") 359), (.ref 136)⟩, ⟨(PySem.PyData.keyHash P (.ofString "__dict__")), (.str (.ofString "__dict__") 361), (.ref 139)⟩, ⟨(PySem.PyData.keyHash P (.ofString "__weakref__")), (.str (.ofString "__weakref__") 363), (.ref 140)⟩, ⟨(PySem.PyData.keyHash P (.ofString "__doc__")), (.str (.ofString "__doc__") 364), .none⟩] 4), #[]⟩
noncomputable def of138 (P : Params) : Obj := ⟨(.type "type"), none, (.cls ⟨(.ofString "Counts"), [(.type "object")], [(.ref 138), (.type "object")], 137, (.ofString "Counts"), true, [], [], false, none, false⟩), #[none, none, (some (.str (.ofString "Counts") 326)), (some (.str (.ofString "Counts") 334)), (some (.builtin "object.__new__")), (some (.bool true))]⟩
noncomputable def of139 (P : Params) : Obj := ⟨(.type "getset_descriptor"), none, (.fields #[(.str (.ofString "__dict__") 360), (.ref 138), (.builtin "function.__dict__"), (.builtin "function.__dict__#set")]), #[]⟩
noncomputable def of140 (P : Params) : Obj := ⟨(.type "getset_descriptor"), none, (.fields #[(.str (.ofString "__weakref__") 362), (.ref 138), (.builtin "ExceptionGroup.__weakref__"), .none]), #[]⟩
noncomputable def of141 (P : Params) : Obj := ⟨(.type "super"), none, (.fields #[(.ref 138), (.ref 138), (.ref 138)]), #[]⟩
noncomputable def of142 (P : Params) : Obj := ⟨(.type "builtin_function_or_method"), none, (.fields #[(.builtin "object.__init_subclass__"), (.ref 138)]), #[]⟩
noncomputable def of145 (P : Params) : Obj := ⟨(.type "dict"), none, (.dict #[⟨(PySem.PyData.keyHash P (.ofString "__module__")), (.str (.ofString "__module__") 374), (.str (.ofString "treepool.cache") 234)⟩, ⟨(PySem.PyData.keyHash P (.ofString "__qualname__")), (.str (.ofString "__qualname__") 376), (.str (.ofString "Cache") 375)⟩, ⟨(PySem.PyData.keyHash P (.ofString "__firstlineno__")), (.str (.ofString "__firstlineno__") 378), (.int 62 377)⟩, ⟨(PySem.PyData.keyHash P (.ofString "__init__")), (.str (.ofString "__init__") 386), (.ref 156)⟩, ⟨(PySem.PyData.keyHash P (.ofString "has")), (.str (.ofString "has") 394), (.ref 163)⟩, ⟨(PySem.PyData.keyHash P (.ofString "get")), (.str (.ofString "get") 404), (.ref 170)⟩, ⟨(PySem.PyData.keyHash P (.ofString "put")), (.str (.ofString "put") 417), (.ref 178)⟩, ⟨(PySem.PyData.keyHash P (.ofString "row_for")), (.str (.ofString "row_for") 426), (.ref 185)⟩, ⟨(PySem.PyData.keyHash P (.ofString "rows")), (.str (.ofString "rows") 433), (.ref 192)⟩, ⟨(PySem.PyData.keyHash P (.ofString "forget")), (.str (.ofString "forget") 442), (.ref 199)⟩, ⟨(PySem.PyData.keyHash P (.ofString "drop")), (.str (.ofString "drop") 451), (.ref 206)⟩, ⟨(PySem.PyData.keyHash P (.ofString "used")), (.str (.ofString "used") 458), (.ref 213)⟩, ⟨(PySem.PyData.keyHash P (.ofString "make_room")), (.str (.ofString "make_room") 468), (.ref 220)⟩, ⟨(PySem.PyData.keyHash P (.ofString "next_out")), (.str (.ofString "next_out") 481), (.ref 227)⟩, ⟨(PySem.PyData.keyHash P (.ofString "put_out")), (.str (.ofString "put_out") 491), (.ref 234)⟩, ⟨(PySem.PyData.keyHash P (.ofString "cut_shadows")), (.str (.ofString "cut_shadows") 497), (.ref 239)⟩, ⟨(PySem.PyData.keyHash P (.ofString "hold")), (.str (.ofString "hold") 505), (.ref 246)⟩, ⟨(PySem.PyData.keyHash P (.ofString "release")), (.str (.ofString "release") 513), (.ref 253)⟩, ⟨(PySem.PyData.keyHash P (.ofString "resize")), (.str (.ofString "resize") 521), (.ref 260)⟩, ⟨(PySem.PyData.keyHash P (.ofString "clear")), (.str (.ofString "clear") 527), (.ref 265)⟩, ⟨(PySem.PyData.keyHash P (.ofString "plain")), (.str (.ofString "plain") 533), (.ref 270)⟩, ⟨(PySem.PyData.keyHash P (.ofString "__static_attributes__")), (.str (.ofString "__static_attributes__") 542), (.ref 271)⟩] 22), #[]⟩
noncomputable def of147 (P : Params) : Obj := ⟨.none, none, (.fields #[(.int 64 0), (.int 4 0), (.ref 155), (.int 76 0), (.int 4 0), (.ref 162), (.int 79 0), (.int 4 0), (.ref 169), (.int 91 0), (.int 4 0), (.ref 177), (.int 105 0), (.int 4 0), (.ref 184), (.int 116 0), (.int 4 0), (.ref 191), (.int 119 0), (.int 4 0), (.ref 198), (.int 125 0), (.int 4 0), (.ref 205), (.int 131 0), (.int 4 0), (.ref 212), (.int 134 0), (.int 4 0), (.ref 219), (.int 141 0), (.int 4 0), (.ref 226), (.int 147 0), (.int 4 0), (.ref 233), (.int 156 0), (.int 4 0), (.ref 238), (.int 162 0), (.int 4 0), (.ref 245), (.int 167 0), (.int 4 0), (.ref 252), (.int 176 0), (.int 4 0), (.ref 259), (.int 184 0), (.int 4 0), (.ref 264), (.int 193 0), (.int 4 0), (.ref 269)]), #[]⟩
noncomputable def of148 (P : Params) : Obj := ⟨(.type "code"), none, (.fields #[(.str (.ofString "Cache") 369), (.str (.ofString "Cache") 370), (.str (.ofString "/claim/cut.py") 371), (.int 62 0), (.int 0 0), (.int 0 0), (.int 0 0), (.int 0 0), (.ref 146), (.bool false), (.int 181 0), (.ref 147), .none, .none, .none, .none, (.int 372 0), (.int 62 0), (.str (.ofString "/claim/cut.py") 373)]), #[]⟩
noncomputable def of149 (P : Params) : Obj := ⟨(.type "frame"), none, .plain, #[(some (.ref 148)), (some (.ref 3)), (some (.ref 145)), none, (some (.str (.ofString "treepool.cache") 234)), none, (some (.ref 0))]⟩
noncomputable def of152 (P : Params) : Obj := ⟨(.type "tuple"), none, (.seq #[(.str (.ofString "self") 382), (.str (.ofString "most") 383)] 0), #[]⟩
noncomputable def of154 (P : Params) : Obj := ⟨.none, none, (.func ⟨(.ofString "__init__"), (.ofString "Cache.__init__"), (fA s6x0), (.stmts (fB s6x0)), (fS s6x0), 0, [], .none, .none, .none, .none, none, .none, .none, 0⟩), #[]⟩
noncomputable def of155 (P : Params) : Obj := ⟨(.type "code"), none, (.fields #[(.str (.ofString "__init__") 379), (.str (.ofString "Cache.__init__") 380), (.str (.ofString "/claim/cut.py") 381), (.int 64 0), (.int 2 0), (.int 0 0), (.int 0 0), (.int 3 0), (.ref 150), (.bool true), (.int 181 0), (.ref 151), .none, (.ref 152), (.ref 153), (.ref 154), (.int 384 0), (.int 64 0), (.str (.ofString "/claim/cut.py") 385)]), #[]⟩
noncomputable def of156 (P : Params) : Obj := ⟨(.type "function"), none, (.func ⟨(.ofString "__init__"), (.ofString "Cache.__init__"), (fA s6x0), (.stmts (fB s6x0)), (fS s6x0), 3, [], .none, .none, .none, (.str (.ofString "treepool.cache") 234), none, (.ref 155), .none, 0⟩), #[]⟩
noncomputable def of159 (P : Params) : Obj := ⟨(.type "tuple"), none, (.seq #[(.str (.ofString "self") 390), (.str (.ofString "key") 391)] 0), #[]⟩
noncomputable def of161 (P : Params) : Obj := ⟨.none, none, (.func ⟨(.ofString "has"), (.ofString "Cache.has"), (fA s6x1), (.stmts (fB s6x1)), (fS s6x1), 0, [], .none, .none, .none, .none, none, .none, .none, 0⟩), #[]⟩
noncomputable def of162 (P : Params) : Obj := ⟨(.type "code"), none, (.fields #[(.str (.ofString "has") 387), (.str (.ofString "Cache.has") 388), (.str (.ofString "/claim/cut.py") 389), (.int 76 0), (.int 2 0), (.int 0 0), (.int 0 0), (.int 3 0), (.ref 157), (.bool true), (.int 181 0), (.ref 158), .none, (.ref 159), (.ref 160), (.ref 161), (.int 392 0), (.int 76 0), (.str (.ofString "/claim/cut.py") 393)]), #[]⟩
noncomputable def of163 (P : Params) : Obj := ⟨(.type "function"), none, (.func ⟨(.ofString "has"), (.ofString "Cache.has"), (fA s6x1), (.stmts (fB s6x1)), (fS s6x1), 3, [], .none, .none, .none, (.str (.ofString "treepool.cache") 234), none, (.ref 162), .none, 0⟩), #[]⟩
noncomputable def of166 (P : Params) : Obj := ⟨(.type "tuple"), none, (.seq #[(.str (.ofString "self") 398), (.str (.ofString "key") 399), (.str (.ofString "value") 400), (.str (.ofString "size") 401)] 0), #[]⟩
noncomputable def of168 (P : Params) : Obj := ⟨.none, none, (.func ⟨(.ofString "get"), (.ofString "Cache.get"), (fA s6x2), (.stmts (fB s6x2)), (fS s6x11), 0, [], .none, .none, .none, .none, none, .none, .none, 0⟩), #[]⟩
noncomputable def of169 (P : Params) : Obj := ⟨(.type "code"), none, (.fields #[(.str (.ofString "get") 395), (.str (.ofString "Cache.get") 396), (.str (.ofString "/claim/cut.py") 397), (.int 79 0), (.int 2 0), (.int 0 0), (.int 0 0), (.int 3 0), (.ref 164), (.bool true), (.int 181 0), (.ref 165), .none, (.ref 166), (.ref 167), (.ref 168), (.int 402 0), (.int 79 0), (.str (.ofString "/claim/cut.py") 403)]), #[]⟩
noncomputable def of170 (P : Params) : Obj := ⟨(.type "function"), none, (.func ⟨(.ofString "get"), (.ofString "Cache.get"), (fA s6x2), (.stmts (fB s6x2)), (fS s6x11), 3, [], .none, .none, .none, (.str (.ofString "treepool.cache") 234), none, (.ref 169), .none, 0⟩), #[]⟩
noncomputable def of171 (P : Params) : Obj := ⟨(.type "tuple"), none, (.seq #[(.int 1 405)] 0), #[]⟩
noncomputable def of174 (P : Params) : Obj := ⟨(.type "tuple"), none, (.seq #[(.str (.ofString "self") 409), (.str (.ofString "key") 410), (.str (.ofString "value") 411), (.str (.ofString "size") 412), (.str (.ofString "goal") 413), (.str (.ofString "is_second") 414)] 0), #[]⟩
noncomputable def of176 (P : Params) : Obj := ⟨.none, none, (.func ⟨(.ofString "put"), (.ofString "Cache.put"), (fA s6x3), (.stmts (fB s6x3)), (fS s6x3), 0, [], .none, .none, .none, .none, none, .none, .none, 0⟩), #[]⟩
noncomputable def of177 (P : Params) : Obj := ⟨(.type "code"), none, (.fields #[(.str (.ofString "put") 406), (.str (.ofString "Cache.put") 407), (.str (.ofString "/claim/cut.py") 408), (.int 91 0), (.int 4 0), (.int 0 0), (.int 0 0), (.int 3 0), (.ref 172), (.bool true), (.int 181 0), (.ref 173), .none, (.ref 174), (.ref 175), (.ref 176), (.int 415 0), (.int 91 0), (.str (.ofString "/claim/cut.py") 416)]), #[]⟩
noncomputable def of178 (P : Params) : Obj := ⟨(.type "function"), none, (.func ⟨(.ofString "put"), (.ofString "Cache.put"), (fA s6x3), (.stmts (fB s6x3)), (fS s6x3), 3, [], (.ref 171), .none, .none, (.str (.ofString "treepool.cache") 234), none, (.ref 177), .none, 0⟩), #[]⟩
noncomputable def of181 (P : Params) : Obj := ⟨(.type "tuple"), none, (.seq #[(.str (.ofString "self") 421), (.str (.ofString "key") 422), (.str (.ofString "size") 423)] 0), #[]⟩
noncomputable def of183 (P : Params) : Obj := ⟨.none, none, (.func ⟨(.ofString "row_for"), (.ofString "Cache.row_for"), (fA s6x4), (.stmts (fB s6x4)), (fS s6x4), 0, [], .none, .none, .none, .none, none, .none, .none, 0⟩), #[]⟩
noncomputable def of184 (P : Params) : Obj := ⟨(.type "code"), none, (.fields #[(.str (.ofString "row_for") 418), (.str (.ofString "Cache.row_for") 419), (.str (.ofString "/claim/cut.py") 420), (.int 105 0), (.int 3 0), (.int 0 0), (.int 0 0), (.int 3 0), (.ref 179), (.bool true), (.int 181 0), (.ref 180), .none, (.ref 181), (.ref 182), (.ref 183), (.int 424 0), (.int 105 0), (.str (.ofString "/claim/cut.py") 425)]), #[]⟩
noncomputable def of185 (P : Params) : Obj := ⟨(.type "function"), none, (.func ⟨(.ofString "row_for"), (.ofString "Cache.row_for"), (fA s6x4), (.stmts (fB s6x4)), (fS s6x4), 3, [], .none, .none, .none, (.str (.ofString "treepool.cache") 234), none, (.ref 184), .none, 0⟩), #[]⟩
noncomputable def of188 (P : Params) : Obj := ⟨(.type "tuple"), none, (.seq #[(.str (.ofString "self") 430)] 0), #[]⟩
noncomputable def of190 (P : Params) : Obj := ⟨.none, none, (.func ⟨(.ofString "rows"), (.ofString "Cache.rows"), (fA s6x5), (.stmts (fB s6x5)), (fS s6x8), 0, [], .none, .none, .none, .none, none, .none, .none, 0⟩), #[]⟩
noncomputable def of191 (P : Params) : Obj := ⟨(.type "code"), none, (.fields #[(.str (.ofString "rows") 427), (.str (.ofString "Cache.rows") 428), (.str (.ofString "/claim/cut.py") 429), (.int 116 0), (.int 1 0), (.int 0 0), (.int 0 0), (.int 3 0), (.ref 186), (.bool true), (.int 181 0), (.ref 187), .none, (.ref 188), (.ref 189), (.ref 190), (.int 431 0), (.int 116 0), (.str (.ofString "/claim/cut.py") 432)]), #[]⟩
noncomputable def of192 (P : Params) : Obj := ⟨(.type "function"), none, (.func ⟨(.ofString "rows"), (.ofString "Cache.rows"), (fA s6x5), (.stmts (fB s6x5)), (fS s6x8), 3, [], .none, .none, .none, (.str (.ofString "treepool.cache") 234), none, (.ref 191), .none, 0⟩), #[]⟩
noncomputable def of195 (P : Params) : Obj := ⟨(.type "tuple"), none, (.seq #[(.str (.ofString "self") 437), (.str (.ofString "key") 438), (.str (.ofString "row") 439)] 0), #[]⟩
noncomputable def of197 (P : Params) : Obj := ⟨.none, none, (.func ⟨(.ofString "forget"), (.ofString "Cache.forget"), (fA s6x6), (.stmts (fB s6x6)), (fS s6x6), 0, [], .none, .none, .none, .none, none, .none, .none, 0⟩), #[]⟩
noncomputable def of198 (P : Params) : Obj := ⟨(.type "code"), none, (.fields #[(.str (.ofString "forget") 434), (.str (.ofString "Cache.forget") 435), (.str (.ofString "/claim/cut.py") 436), (.int 119 0), (.int 2 0), (.int 0 0), (.int 0 0), (.int 3 0), (.ref 193), (.bool true), (.int 181 0), (.ref 194), .none, (.ref 195), (.ref 196), (.ref 197), (.int 440 0), (.int 119 0), (.str (.ofString "/claim/cut.py") 441)]), #[]⟩
noncomputable def of199 (P : Params) : Obj := ⟨(.type "function"), none, (.func ⟨(.ofString "forget"), (.ofString "Cache.forget"), (fA s6x6), (.stmts (fB s6x6)), (fS s6x6), 3, [], .none, .none, .none, (.str (.ofString "treepool.cache") 234), none, (.ref 198), .none, 0⟩), #[]⟩
noncomputable def of202 (P : Params) : Obj := ⟨(.type "tuple"), none, (.seq #[(.str (.ofString "self") 446), (.str (.ofString "key") 447), (.str (.ofString "was_here") 448)] 0), #[]⟩
noncomputable def of204 (P : Params) : Obj := ⟨.none, none, (.func ⟨(.ofString "drop"), (.ofString "Cache.drop"), (fA s6x7), (.stmts (fB s6x7)), (fS s6x7), 0, [], .none, .none, .none, .none, none, .none, .none, 0⟩), #[]⟩
noncomputable def of205 (P : Params) : Obj := ⟨(.type "code"), none, (.fields #[(.str (.ofString "drop") 443), (.str (.ofString "Cache.drop") 444), (.str (.ofString "/claim/cut.py") 445), (.int 125 0), (.int 2 0), (.int 0 0), (.int 0 0), (.int 3 0), (.ref 200), (.bool true), (.int 181 0), (.ref 201), .none, (.ref 202), (.ref 203), (.ref 204), (.int 449 0), (.int 125 0), (.str (.ofString "/claim/cut.py") 450)]), #[]⟩
noncomputable def of206 (P : Params) : Obj := ⟨(.type "function"), none, (.func ⟨(.ofString "drop"), (.ofString "Cache.drop"), (fA s6x7), (.stmts (fB s6x7)), (fS s6x7), 3, [], .none, .none, .none, (.str (.ofString "treepool.cache") 234), none, (.ref 205), .none, 0⟩), #[]⟩
noncomputable def of209 (P : Params) : Obj := ⟨(.type "tuple"), none, (.seq #[(.str (.ofString "self") 455)] 0), #[]⟩
noncomputable def of211 (P : Params) : Obj := ⟨.none, none, (.func ⟨(.ofString "used"), (.ofString "Cache.used"), (fA s6x8), (.stmts (fB s6x8)), (fS s6x8), 0, [], .none, .none, .none, .none, none, .none, .none, 0⟩), #[]⟩
noncomputable def of212 (P : Params) : Obj := ⟨(.type "code"), none, (.fields #[(.str (.ofString "used") 452), (.str (.ofString "Cache.used") 453), (.str (.ofString "/claim/cut.py") 454), (.int 131 0), (.int 1 0), (.int 0 0), (.int 0 0), (.int 3 0), (.ref 207), (.bool true), (.int 181 0), (.ref 208), .none, (.ref 209), (.ref 210), (.ref 211), (.int 456 0), (.int 131 0), (.str (.ofString "/claim/cut.py") 457)]), #[]⟩
noncomputable def of213 (P : Params) : Obj := ⟨(.type "function"), none, (.func ⟨(.ofString "used"), (.ofString "Cache.used"), (fA s6x8), (.stmts (fB s6x8)), (fS s6x8), 3, [], .none, .none, .none, (.str (.ofString "treepool.cache") 234), none, (.ref 212), .none, 0⟩), #[]⟩
noncomputable def of216 (P : Params) : Obj := ⟨(.type "tuple"), none, (.seq #[(.str (.ofString "self") 462), (.str (.ofString "size") 463), (.str (.ofString "is_second") 464), (.str (.ofString "key") 465)] 0), #[]⟩
noncomputable def of218 (P : Params) : Obj := ⟨.none, none, (.func ⟨(.ofString "make_room"), (.ofString "Cache.make_room"), (fA s6x9), (.stmts (fB s6x9)), (fS s6x9), 0, [], .none, .none, .none, .none, none, .none, .none, 0⟩), #[]⟩
noncomputable def of219 (P : Params) : Obj := ⟨(.type "code"), none, (.fields #[(.str (.ofString "make_room") 459), (.str (.ofString "Cache.make_room") 460), (.str (.ofString "/claim/cut.py") 461), (.int 134 0), (.int 3 0), (.int 0 0), (.int 0 0), (.int 3 0), (.ref 214), (.bool true), (.int 181 0), (.ref 215), .none, (.ref 216), (.ref 217), (.ref 218), (.int 466 0), (.int 134 0), (.str (.ofString "/claim/cut.py") 467)]), #[]⟩
noncomputable def of220 (P : Params) : Obj := ⟨(.type "function"), none, (.func ⟨(.ofString "make_room"), (.ofString "Cache.make_room"), (fA s6x9), (.stmts (fB s6x9)), (fS s6x9), 3, [], .none, .none, .none, (.str (.ofString "treepool.cache") 234), none, (.ref 219), .none, 0⟩), #[]⟩
noncomputable def of223 (P : Params) : Obj := ⟨(.type "tuple"), none, (.seq #[(.str (.ofString "self") 472), (.str (.ofString "is_second") 473), (.str (.ofString "recent") 474), (.str (.ofString "often") 475), (.str (.ofString "is_above") 476), (.str (.ofString "first") 477), (.str (.ofString "second") 478)] 0), #[]⟩
noncomputable def of225 (P : Params) : Obj := ⟨.none, none, (.func ⟨(.ofString "next_out"), (.ofString "Cache.next_out"), (fA s6x10), (.stmts (fB s6x10)), (fS s6x10), 0, [], .none, .none, .none, .none, none, .none, .none, 0⟩), #[]⟩
noncomputable def of226 (P : Params) : Obj := ⟨(.type "code"), none, (.fields #[(.str (.ofString "next_out") 469), (.str (.ofString "Cache.next_out") 470), (.str (.ofString "/claim/cut.py") 471), (.int 141 0), (.int 2 0), (.int 0 0), (.int 0 0), (.int 3 0), (.ref 221), (.bool true), (.int 181 0), (.ref 222), .none, (.ref 223), (.ref 224), (.ref 225), (.int 479 0), (.int 141 0), (.str (.ofString "/claim/cut.py") 480)]), #[]⟩
noncomputable def of227 (P : Params) : Obj := ⟨(.type "function"), none, (.func ⟨(.ofString "next_out"), (.ofString "Cache.next_out"), (fA s6x10), (.stmts (fB s6x10)), (fS s6x10), 3, [], .none, .none, .none, (.str (.ofString "treepool.cache") 234), none, (.ref 226), .none, 0⟩), #[]⟩
noncomputable def of230 (P : Params) : Obj := ⟨(.type "tuple"), none, (.seq #[(.str (.ofString "self") 485), (.str (.ofString "key") 486), (.str (.ofString "value") 487), (.str (.ofString "size") 488)] 0), #[]⟩
noncomputable def of232 (P : Params) : Obj := ⟨.none, none, (.func ⟨(.ofString "put_out"), (.ofString "Cache.put_out"), (fA s6x11), (.stmts (fB s6x11)), (fS s6x11), 0, [], .none, .none, .none, .none, none, .none, .none, 0⟩), #[]⟩
noncomputable def of233 (P : Params) : Obj := ⟨(.type "code"), none, (.fields #[(.str (.ofString "put_out") 482), (.str (.ofString "Cache.put_out") 483), (.str (.ofString "/claim/cut.py") 484), (.int 147 0), (.int 2 0), (.int 0 0), (.int 0 0), (.int 3 0), (.ref 228), (.bool true), (.int 181 0), (.ref 229), .none, (.ref 230), (.ref 231), (.ref 232), (.int 489 0), (.int 147 0), (.str (.ofString "/claim/cut.py") 490)]), #[]⟩
noncomputable def of234 (P : Params) : Obj := ⟨(.type "function"), none, (.func ⟨(.ofString "put_out"), (.ofString "Cache.put_out"), (fA s6x11), (.stmts (fB s6x11)), (fS s6x11), 3, [], .none, .none, .none, (.str (.ofString "treepool.cache") 234), none, (.ref 233), .none, 0⟩), #[]⟩
noncomputable def of237 (P : Params) : Obj := ⟨.none, none, (.func ⟨(.ofString "cut_shadows"), (.ofString "Cache.cut_shadows"), (fA s6x12), (.stmts (fB s6x12)), (fS s6x12), 0, [], .none, .none, .none, .none, none, .none, .none, 0⟩), #[]⟩
noncomputable def of238 (P : Params) : Obj := ⟨(.type "code"), none, (.fields #[(.str (.ofString "cut_shadows") 492), (.str (.ofString "Cache.cut_shadows") 493), (.str (.ofString "/claim/cut.py") 494), (.int 156 0), (.int 1 0), (.int 0 0), (.int 0 0), (.int 3 0), (.ref 235), (.bool true), (.int 181 0), (.ref 236), .none, .none, .none, (.ref 237), (.int 495 0), (.int 156 0), (.str (.ofString "/claim/cut.py") 496)]), #[]⟩
noncomputable def of239 (P : Params) : Obj := ⟨(.type "function"), none, (.func ⟨(.ofString "cut_shadows"), (.ofString "Cache.cut_shadows"), (fA s6x12), (.stmts (fB s6x12)), (fS s6x12), 3, [], .none, .none, .none, (.str (.ofString "treepool.cache") 234), none, (.ref 238), .none, 0⟩), #[]⟩
noncomputable def of242 (P : Params) : Obj := ⟨(.type "tuple"), none, (.seq #[(.str (.ofString "self") 501), (.str (.ofString "key") 502)] 0), #[]⟩
noncomputable def of244 (P : Params) : Obj := ⟨.none, none, (.func ⟨(.ofString "hold"), (.ofString "Cache.hold"), (fA s6x13), (.stmts (fB s6x13)), (fS s6x14), 0, [], .none, .none, .none, .none, none, .none, .none, 0⟩), #[]⟩
noncomputable def of245 (P : Params) : Obj := ⟨(.type "code"), none, (.fields #[(.str (.ofString "hold") 498), (.str (.ofString "Cache.hold") 499), (.str (.ofString "/claim/cut.py") 500), (.int 162 0), (.int 2 0), (.int 0 0), (.int 0 0), (.int 3 0), (.ref 240), (.bool true), (.int 181 0), (.ref 241), .none, (.ref 242), (.ref 243), (.ref 244), (.int 503 0), (.int 162 0), (.str (.ofString "/claim/cut.py") 504)]), #[]⟩
noncomputable def of246 (P : Params) : Obj := ⟨(.type "function"), none, (.func ⟨(.ofString "hold"), (.ofString "Cache.hold"), (fA s6x13), (.stmts (fB s6x13)), (fS s6x14), 3, [], .none, .none, .none, (.str (.ofString "treepool.cache") 234), none, (.ref 245), .none, 0⟩), #[]⟩
noncomputable def of249 (P : Params) : Obj := ⟨(.type "tuple"), none, (.seq #[(.str (.ofString "self") 509), (.str (.ofString "key") 510)] 0), #[]⟩
noncomputable def of251 (P : Params) : Obj := ⟨.none, none, (.func ⟨(.ofString "release"), (.ofString "Cache.release"), (fA s6x14), (.stmts (fB s6x14)), (fS s6x14), 0, [], .none, .none, .none, .none, none, .none, .none, 0⟩), #[]⟩
noncomputable def of252 (P : Params) : Obj := ⟨(.type "code"), none, (.fields #[(.str (.ofString "release") 506), (.str (.ofString "Cache.release") 507), (.str (.ofString "/claim/cut.py") 508), (.int 167 0), (.int 2 0), (.int 0 0), (.int 0 0), (.int 3 0), (.ref 247), (.bool true), (.int 181 0), (.ref 248), .none, (.ref 249), (.ref 250), (.ref 251), (.int 511 0), (.int 167 0), (.str (.ofString "/claim/cut.py") 512)]), #[]⟩
noncomputable def of253 (P : Params) : Obj := ⟨(.type "function"), none, (.func ⟨(.ofString "release"), (.ofString "Cache.release"), (fA s6x14), (.stmts (fB s6x14)), (fS s6x14), 3, [], .none, .none, .none, (.str (.ofString "treepool.cache") 234), none, (.ref 252), .none, 0⟩), #[]⟩
noncomputable def of256 (P : Params) : Obj := ⟨(.type "tuple"), none, (.seq #[(.str (.ofString "self") 517), (.str (.ofString "most") 518)] 0), #[]⟩
noncomputable def of258 (P : Params) : Obj := ⟨.none, none, (.func ⟨(.ofString "resize"), (.ofString "Cache.resize"), (fA s6x15), (.stmts (fB s6x15)), (fS s6x15), 0, [], .none, .none, .none, .none, none, .none, .none, 0⟩), #[]⟩
noncomputable def of259 (P : Params) : Obj := ⟨(.type "code"), none, (.fields #[(.str (.ofString "resize") 514), (.str (.ofString "Cache.resize") 515), (.str (.ofString "/claim/cut.py") 516), (.int 176 0), (.int 2 0), (.int 0 0), (.int 0 0), (.int 3 0), (.ref 254), (.bool true), (.int 181 0), (.ref 255), .none, (.ref 256), (.ref 257), (.ref 258), (.int 519 0), (.int 176 0), (.str (.ofString "/claim/cut.py") 520)]), #[]⟩
noncomputable def of260 (P : Params) : Obj := ⟨(.type "function"), none, (.func ⟨(.ofString "resize"), (.ofString "Cache.resize"), (fA s6x15), (.stmts (fB s6x15)), (fS s6x15), 3, [], .none, .none, .none, (.str (.ofString "treepool.cache") 234), none, (.ref 259), .none, 0⟩), #[]⟩
noncomputable def of263 (P : Params) : Obj := ⟨.none, none, (.func ⟨(.ofString "clear"), (.ofString "Cache.clear"), (fA s6x16), (.stmts (fB s6x16)), (fS s6x16), 0, [], .none, .none, .none, .none, none, .none, .none, 0⟩), #[]⟩
noncomputable def of264 (P : Params) : Obj := ⟨(.type "code"), none, (.fields #[(.str (.ofString "clear") 522), (.str (.ofString "Cache.clear") 523), (.str (.ofString "/claim/cut.py") 524), (.int 184 0), (.int 1 0), (.int 0 0), (.int 0 0), (.int 3 0), (.ref 261), (.bool true), (.int 181 0), (.ref 262), .none, .none, .none, (.ref 263), (.int 525 0), (.int 184 0), (.str (.ofString "/claim/cut.py") 526)]), #[]⟩
noncomputable def of265 (P : Params) : Obj := ⟨(.type "function"), none, (.func ⟨(.ofString "clear"), (.ofString "Cache.clear"), (fA s6x16), (.stmts (fB s6x16)), (fS s6x16), 3, [], .none, .none, .none, (.str (.ofString "treepool.cache") 234), none, (.ref 264), .none, 0⟩), #[]⟩
noncomputable def of268 (P : Params) : Obj := ⟨.none, none, (.func ⟨(.ofString "plain"), (.ofString "Cache.plain"), (fA s6x17), (.stmts (fB s6x17)), (fS s6x17), 0, [], .none, .none, .none, .none, none, .none, .none, 0⟩), #[]⟩
noncomputable def of269 (P : Params) : Obj := ⟨(.type "code"), none, (.fields #[(.str (.ofString "plain") 528), (.str (.ofString "Cache.plain") 529), (.str (.ofString "/claim/cut.py") 530), (.int 193 0), (.int 1 0), (.int 0 0), (.int 0 0), (.int 3 0), (.ref 266), (.bool true), (.int 181 0), (.ref 267), .none, .none, .none, (.ref 268), (.int 531 0), (.int 193 0), (.str (.ofString "/claim/cut.py") 532)]), #[]⟩
noncomputable def of270 (P : Params) : Obj := ⟨(.type "function"), none, (.func ⟨(.ofString "plain"), (.ofString "Cache.plain"), (fA s6x17), (.stmts (fB s6x17)), (fS s6x17), 3, [], .none, .none, .none, (.str (.ofString "treepool.cache") 234), none, (.ref 269), .none, 0⟩), #[]⟩
noncomputable def of271 (P : Params) : Obj := ⟨(.type "tuple"), none, (.seq #[(.str (.ofString "counts") 534), (.str (.ofString "goal") 535), (.str (.ofString "held") 536), (.str (.ofString "most") 537), (.str (.ofString "often") 538), (.str (.ofString "often_gone") 539), (.str (.ofString "recent") 540), (.str (.ofString "recent_gone") 541)] 0), #[]⟩
noncomputable def of272 (P : Params) : Obj := ⟨(.type "dict"), none, (.dict #[⟨(PySem.PyData.keyHash P (.ofString "__module__")), (.str (.ofString "__module__") 374), (.str (.ofString "treepool.cache") 234)⟩, ⟨(PySem.PyData.keyHash P (.ofString "__firstlineno__")), (.str (.ofString "__firstlineno__") 378), (.int 62 377)⟩, ⟨(PySem.PyData.keyHash P (.ofString "__init__")), (.str (.ofString "__init__") 386), (.ref 156)⟩, ⟨(PySem.PyData.keyHash P (.ofString "has")), (.str (.ofString "has") 394), (.ref 163)⟩, ⟨(PySem.PyData.keyHash P (.ofString "get")), (.str (.ofString "get") 404), (.ref 170)⟩, ⟨(PySem.PyData.keyHash P (.ofString "put")), (.str (.ofString "put") 417), (.ref 178)⟩, ⟨(PySem.PyData.keyHash P (.ofString "row_for")), (.str (.ofString "row_for") 426), (.ref 185)⟩, ⟨(PySem.PyData.keyHash P (.ofString "rows")), (.str (.ofString "rows") 433), (.ref 192)⟩, ⟨(PySem.PyData.keyHash P (.ofString "forget")), (.str (.ofString "forget") 442), (.ref 199)⟩, ⟨(PySem.PyData.keyHash P (.ofString "drop")), (.str (.ofString "drop") 451), (.ref 206)⟩, ⟨(PySem.PyData.keyHash P (.ofString "used")), (.str (.ofString "used") 458), (.ref 213)⟩, ⟨(PySem.PyData.keyHash P (.ofString "make_room")), (.str (.ofString "make_room") 468), (.ref 220)⟩, ⟨(PySem.PyData.keyHash P (.ofString "next_out")), (.str (.ofString "next_out") 481), (.ref 227)⟩, ⟨(PySem.PyData.keyHash P (.ofString "put_out")), (.str (.ofString "put_out") 491), (.ref 234)⟩, ⟨(PySem.PyData.keyHash P (.ofString "cut_shadows")), (.str (.ofString "cut_shadows") 497), (.ref 239)⟩, ⟨(PySem.PyData.keyHash P (.ofString "hold")), (.str (.ofString "hold") 505), (.ref 246)⟩, ⟨(PySem.PyData.keyHash P (.ofString "release")), (.str (.ofString "release") 513), (.ref 253)⟩, ⟨(PySem.PyData.keyHash P (.ofString "resize")), (.str (.ofString "resize") 521), (.ref 260)⟩, ⟨(PySem.PyData.keyHash P (.ofString "clear")), (.str (.ofString "clear") 527), (.ref 265)⟩, ⟨(PySem.PyData.keyHash P (.ofString "plain")), (.str (.ofString "plain") 533), (.ref 270)⟩, ⟨(PySem.PyData.keyHash P (.ofString "__static_attributes__")), (.str (.ofString "__static_attributes__") 542), (.ref 271)⟩, ⟨(PySem.PyData.keyHash P (.ofString "__dict__")), (.str (.ofString "__dict__") 544), (.ref 274)⟩, ⟨(PySem.PyData.keyHash P (.ofString "__weakref__")), (.str (.ofString "__weakref__") 546), (.ref 275)⟩, ⟨(PySem.PyData.keyHash P (.ofString "__doc__")), (.str (.ofString "__doc__") 547), .none⟩] 4), #[]⟩
noncomputable def of273 (P : Params) : Obj := ⟨(.type "type"), none, (.cls ⟨(.ofString "Cache"), [(.type "object")], [(.ref 273), (.type "object")], 272, (.ofString "Cache"), true, [], [], false, none, false⟩), #[none, none, (some (.str (.ofString "Cache") 367)), (some (.str (.ofString "Cache") 375)), (some (.builtin "object.__new__")), (some (.bool true))]⟩
noncomputable def of274 (P : Params) : Obj := ⟨(.type "getset_descriptor"), none, (.fields #[(.str (.ofString "__dict__") 543), (.ref 273), (.builtin "function.__dict__"), (.builtin "function.__dict__#set")]), #[]⟩
noncomputable def of275 (P : Params) : Obj := ⟨(.type "getset_descriptor"), none, (.fields #[(.str (.ofString "__weakref__") 545), (.ref 273), (.builtin "ExceptionGroup.__weakref__"), .none]), #[]⟩
noncomputable def of276 (P : Params) : Obj := ⟨(.type "super"), none, (.fields #[(.ref 273), (.ref 273), (.ref 273)]), #[]⟩
noncomputable def of277 (P : Params) : Obj := ⟨(.type "builtin_function_or_method"), none, (.fields #[(.builtin "object.__init_subclass__"), (.ref 273)]), #[]⟩
noncomputable def of280 (P : Params) : Obj := ⟨(.type "tuple"), none, (.seq #[(.str (.ofString "size") 553), (.str (.ofString "other") 554), (.str (.ofString "own") 555)] 0), #[]⟩
noncomputable def of282 (P : Params) : Obj := ⟨.none, none, (.func ⟨(.ofString "step_of"), (.ofString "step_of"), (fA s7), (.stmts (fB s7)), (fS s7), 0, [], .none, .none, .none, .none, none, .none, .none, 0⟩), #[]⟩
noncomputable def of283 (P : Params) : Obj := ⟨(.type "code"), none, (.fields #[(.str (.ofString "step_of") 550), (.str (.ofString "step_of") 551), (.str (.ofString "/claim/cut.py") 552), (.int 195 0), (.int 3 0), (.int 0 0), (.int 0 0), (.int 3 0), (.ref 278), (.bool true), (.int 181 0), (.ref 279), .none, (.ref 280), (.ref 281), (.ref 282), (.int 556 0), (.int 195 0), (.str (.ofString "/claim/cut.py") 557)]), #[]⟩
noncomputable def of284 (P : Params) : Obj := ⟨(.type "function"), none, (.func ⟨(.ofString "step_of"), (.ofString "step_of"), (fA s7), (.stmts (fB s7)), (fS s7), 3, [], .none, .none, .none, (.str (.ofString "treepool.cache") 234), none, (.ref 283), .none, 0⟩), #[]⟩
noncomputable def of287 (P : Params) : Obj := ⟨.none, none, (.func ⟨(.ofString "_law_total"), (.ofString "_law_total"), (fA s9), (.stmts (fB s9)), (fS s9), 0, [], .none, .none, .none, .none, none, .none, .none, 0⟩), #[]⟩
noncomputable def of288 (P : Params) : Obj := ⟨(.type "code"), none, (.fields #[(.str (.ofString "_law_total") 561), (.str (.ofString "_law_total") 562), (.str (.ofString "/claim/cut.py") 563), (.int 198 0), (.int 2 0), (.int 0 0), (.int 0 0), (.int 3 0), (.ref 285), (.bool true), (.int 181 0), (.ref 286), .none, .none, .none, (.ref 287), (.int 564 0), (.int 198 0), (.str (.ofString "/claim/cut.py") 565)]), #[]⟩
noncomputable def of289 (P : Params) : Obj := ⟨(.type "function"), none, (.func ⟨(.ofString "_law_total"), (.ofString "_law_total"), (fA s9), (.stmts (fB s9)), (fS s9), 3, [], .none, .none, .none, (.str (.ofString "law_np0195_01") 559), none, (.ref 288), .none, 0⟩), #[]⟩
noncomputable def of292 (P : Params) : Obj := ⟨.none, none, (.func ⟨(.ofString "_law_row"), (.ofString "_law_row"), (fA s10), (.stmts (fB s10)), (fS s10), 0, [], .none, .none, .none, .none, none, .none, .none, 0⟩), #[]⟩
noncomputable def of293 (P : Params) : Obj := ⟨(.type "code"), none, (.fields #[(.str (.ofString "_law_row") 567), (.str (.ofString "_law_row") 568), (.str (.ofString "/claim/cut.py") 569), (.int 200 0), (.int 2 0), (.int 0 0), (.int 0 0), (.int 3 0), (.ref 290), (.bool true), (.int 181 0), (.ref 291), .none, .none, .none, (.ref 292), (.int 570 0), (.int 200 0), (.str (.ofString "/claim/cut.py") 571)]), #[]⟩
noncomputable def of294 (P : Params) : Obj := ⟨(.type "function"), none, (.func ⟨(.ofString "_law_row"), (.ofString "_law_row"), (fA s10), (.stmts (fB s10)), (fS s10), 3, [], .none, .none, .none, (.str (.ofString "law_np0195_01") 559), none, (.ref 293), .none, 0⟩), #[]⟩
noncomputable def of297 (P : Params) : Obj := ⟨.none, none, (.func ⟨(.ofString "_law_out"), (.ofString "_law_out"), (fA s11), (.stmts (fB s11)), (fS s11), 0, [], .none, .none, .none, .none, none, .none, .none, 0⟩), #[]⟩
noncomputable def of298 (P : Params) : Obj := ⟨(.type "code"), none, (.fields #[(.str (.ofString "_law_out") 573), (.str (.ofString "_law_out") 574), (.str (.ofString "/claim/cut.py") 575), (.int 203 0), (.int 4 0), (.int 0 0), (.int 0 0), (.int 3 0), (.ref 295), (.bool true), (.int 181 0), (.ref 296), .none, .none, .none, (.ref 297), (.int 576 0), (.int 203 0), (.str (.ofString "/claim/cut.py") 577)]), #[]⟩
noncomputable def of299 (P : Params) : Obj := ⟨(.type "function"), none, (.func ⟨(.ofString "_law_out"), (.ofString "_law_out"), (fA s11), (.stmts (fB s11)), (fS s11), 3, [], .none, .none, .none, (.str (.ofString "law_np0195_01") 559), none, (.ref 298), .none, 0⟩), #[]⟩
noncomputable def of302 (P : Params) : Obj := ⟨(.type "tuple"), none, (.seq #[(.str (.ofString "rows") 582), (.str (.ofString "state") 583), (.str (.ofString "row") 584)] 0), #[]⟩
noncomputable def of304 (P : Params) : Obj := ⟨.none, none, (.func ⟨(.ofString "_law_away"), (.ofString "_law_away"), (fA s12), (.stmts (fB s12)), (fS s12), 0, [], .none, .none, .none, .none, none, .none, .none, 0⟩), #[]⟩
noncomputable def of305 (P : Params) : Obj := ⟨(.type "code"), none, (.fields #[(.str (.ofString "_law_away") 579), (.str (.ofString "_law_away") 580), (.str (.ofString "/claim/cut.py") 581), (.int 212 0), (.int 3 0), (.int 0 0), (.int 0 0), (.int 3 0), (.ref 300), (.bool true), (.int 181 0), (.ref 301), .none, (.ref 302), (.ref 303), (.ref 304), (.int 585 0), (.int 212 0), (.str (.ofString "/claim/cut.py") 586)]), #[]⟩
noncomputable def of306 (P : Params) : Obj := ⟨(.type "function"), none, (.func ⟨(.ofString "_law_away"), (.ofString "_law_away"), (fA s12), (.stmts (fB s12)), (fS s12), 3, [], .none, .none, .none, (.str (.ofString "law_np0195_01") 559), none, (.ref 305), .none, 0⟩), #[]⟩
noncomputable def of309 (P : Params) : Obj := ⟨.none, none, (.func ⟨(.ofString "_law_cut"), (.ofString "_law_cut"), (fA s13), (.stmts (fB s13)), (fS s13), 0, [], .none, .none, .none, .none, none, .none, .none, 0⟩), #[]⟩
noncomputable def of310 (P : Params) : Obj := ⟨(.type "code"), none, (.fields #[(.str (.ofString "_law_cut") 588), (.str (.ofString "_law_cut") 589), (.str (.ofString "/claim/cut.py") 590), (.int 216 0), (.int 2 0), (.int 0 0), (.int 0 0), (.int 3 0), (.ref 307), (.bool true), (.int 181 0), (.ref 308), .none, .none, .none, (.ref 309), (.int 591 0), (.int 216 0), (.str (.ofString "/claim/cut.py") 592)]), #[]⟩
noncomputable def of311 (P : Params) : Obj := ⟨(.type "function"), none, (.func ⟨(.ofString "_law_cut"), (.ofString "_law_cut"), (fA s13), (.stmts (fB s13)), (fS s13), 3, [], .none, .none, .none, (.str (.ofString "law_np0195_01") 559), none, (.ref 310), .none, 0⟩), #[]⟩
noncomputable def of314 (P : Params) : Obj := ⟨(.type "tuple"), none, (.seq #[(.str (.ofString "rows") 597), (.str (.ofString "state") 598), (.str (.ofString "key") 599), (.str (.ofString "row") 600)] 0), #[]⟩
noncomputable def of316 (P : Params) : Obj := ⟨.none, none, (.func ⟨(.ofString "_law_get"), (.ofString "_law_get"), (fA s14), (.stmts (fB s14)), (fS s16), 0, [], .none, .none, .none, .none, none, .none, .none, 0⟩), #[]⟩
noncomputable def of317 (P : Params) : Obj := ⟨(.type "code"), none, (.fields #[(.str (.ofString "_law_get") 594), (.str (.ofString "_law_get") 595), (.str (.ofString "/claim/cut.py") 596), (.int 221 0), (.int 3 0), (.int 0 0), (.int 0 0), (.int 3 0), (.ref 312), (.bool true), (.int 181 0), (.ref 313), .none, (.ref 314), (.ref 315), (.ref 316), (.int 601 0), (.int 221 0), (.str (.ofString "/claim/cut.py") 602)]), #[]⟩
noncomputable def of318 (P : Params) : Obj := ⟨(.type "function"), none, (.func ⟨(.ofString "_law_get"), (.ofString "_law_get"), (fA s14), (.stmts (fB s14)), (fS s16), 3, [], .none, .none, .none, (.str (.ofString "law_np0195_01") 559), none, (.ref 317), .none, 0⟩), #[]⟩
noncomputable def of321 (P : Params) : Obj := ⟨(.type "tuple"), none, (.seq #[(.str (.ofString "rows") 607), (.str (.ofString "state") 608), (.str (.ofString "key") 609), (.str (.ofString "value") 610), (.str (.ofString "size") 611), (.str (.ofString "row") 612), (.str (.ofString "own") 613), (.str (.ofString "other") 614), (.str (.ofString "far") 615)] 0), #[]⟩
noncomputable def of323 (P : Params) : Obj := ⟨.none, none, (.func ⟨(.ofString "_law_put"), (.ofString "_law_put"), (fA s15), (.stmts (fB s15)), (fS s15), 0, [], .none, .none, .none, .none, none, .none, .none, 0⟩), #[]⟩
noncomputable def of324 (P : Params) : Obj := ⟨(.type "code"), none, (.fields #[(.str (.ofString "_law_put") 604), (.str (.ofString "_law_put") 605), (.str (.ofString "/claim/cut.py") 606), (.int 230 0), (.int 5 0), (.int 0 0), (.int 0 0), (.int 3 0), (.ref 319), (.bool true), (.int 181 0), (.ref 320), .none, (.ref 321), (.ref 322), (.ref 323), (.int 616 0), (.int 230 0), (.str (.ofString "/claim/cut.py") 617)]), #[]⟩
noncomputable def of325 (P : Params) : Obj := ⟨(.type "function"), none, (.func ⟨(.ofString "_law_put"), (.ofString "_law_put"), (fA s15), (.stmts (fB s15)), (fS s15), 3, [], .none, .none, .none, (.str (.ofString "law_np0195_01") 559), none, (.ref 324), .none, 0⟩), #[]⟩
noncomputable def of328 (P : Params) : Obj := ⟨(.type "tuple"), none, (.seq #[(.str (.ofString "rows") 622), (.str (.ofString "state") 623), (.str (.ofString "key") 624), (.str (.ofString "row") 625)] 0), #[]⟩
noncomputable def of330 (P : Params) : Obj := ⟨.none, none, (.func ⟨(.ofString "_law_drop"), (.ofString "_law_drop"), (fA s16), (.stmts (fB s16)), (fS s16), 0, [], .none, .none, .none, .none, none, .none, .none, 0⟩), #[]⟩
noncomputable def of331 (P : Params) : Obj := ⟨(.type "code"), none, (.fields #[(.str (.ofString "_law_drop") 619), (.str (.ofString "_law_drop") 620), (.str (.ofString "/claim/cut.py") 621), (.int 246 0), (.int 3 0), (.int 0 0), (.int 0 0), (.int 3 0), (.ref 326), (.bool true), (.int 181 0), (.ref 327), .none, (.ref 328), (.ref 329), (.ref 330), (.int 626 0), (.int 246 0), (.str (.ofString "/claim/cut.py") 627)]), #[]⟩
noncomputable def of332 (P : Params) : Obj := ⟨(.type "function"), none, (.func ⟨(.ofString "_law_drop"), (.ofString "_law_drop"), (fA s16), (.stmts (fB s16)), (fS s16), 3, [], .none, .none, .none, (.str (.ofString "law_np0195_01") 559), none, (.ref 331), .none, 0⟩), #[]⟩
noncomputable def of335 (P : Params) : Obj := ⟨.none, none, (.func ⟨(.ofString "_law_due"), (.ofString "_law_due"), (fA s17), (.stmts (fB s17)), (fS s17), 0, [], .none, .none, .none, .none, none, .none, .none, 0⟩), #[]⟩
noncomputable def of336 (P : Params) : Obj := ⟨(.type "code"), none, (.fields #[(.str (.ofString "_law_due") 629), (.str (.ofString "_law_due") 630), (.str (.ofString "/claim/cut.py") 631), (.int 252 0), (.int 5 0), (.int 0 0), (.int 0 0), (.int 3 0), (.ref 333), (.bool true), (.int 181 0), (.ref 334), .none, .none, .none, (.ref 335), (.int 632 0), (.int 252 0), (.str (.ofString "/claim/cut.py") 633)]), #[]⟩
noncomputable def of337 (P : Params) : Obj := ⟨(.type "function"), none, (.func ⟨(.ofString "_law_due"), (.ofString "_law_due"), (fA s17), (.stmts (fB s17)), (fS s17), 3, [], .none, .none, .none, (.str (.ofString "law_np0195_01") 559), none, (.ref 336), .none, 0⟩), #[]⟩
noncomputable def of340 (P : Params) : Obj := ⟨(.type "tuple"), none, (.seq #[(.str (.ofString "cache") 638), (.str (.ofString "what") 639), (.str (.ofString "key") 640), (.str (.ofString "far") 641), (.str (.ofString "fault") 642)] 0), #[]⟩
noncomputable def of342 (P : Params) : Obj := ⟨.none, none, (.func ⟨(.ofString "_law_told"), (.ofString "_law_told"), (fA s18), (.stmts (fB s18)), (fS s18), 0, [], .none, .none, .none, .none, none, .none, .none, 0⟩), #[]⟩
noncomputable def of343 (P : Params) : Obj := ⟨(.type "code"), none, (.fields #[(.str (.ofString "_law_told") 635), (.str (.ofString "_law_told") 636), (.str (.ofString "/claim/cut.py") 637), (.int 290 0), (.int 4 0), (.int 0 0), (.int 0 0), (.int 3 0), (.ref 338), (.bool true), (.int 181 0), (.ref 339), .none, (.ref 340), (.ref 341), (.ref 342), (.int 643 0), (.int 290 0), (.str (.ofString "/claim/cut.py") 644)]), #[]⟩
noncomputable def of344 (P : Params) : Obj := ⟨(.type "function"), none, (.func ⟨(.ofString "_law_told"), (.ofString "_law_told"), (fA s18), (.stmts (fB s18)), (fS s18), 3, [], .none, .none, .none, (.str (.ofString "law_np0195_01") 559), none, (.ref 343), .none, 0⟩), #[]⟩
noncomputable def of347 (P : Params) : Obj := ⟨.none, none, (.func ⟨(.ofString "law"), (.ofString "law"), (fA s19), (.stmts (fB s19)), (fS s19), 0, [], .none, .none, .none, .none, none, .none, .none, 0⟩), #[]⟩
noncomputable def of348 (P : Params) : Obj := ⟨(.type "code"), none, (.fields #[(.str (.ofString "law") 646), (.str (.ofString "law") 647), (.str (.ofString "/claim/cut.py") 648), (.int 305 0), (.int 1 0), (.int 0 0), (.int 0 0), (.int 3 0), (.ref 345), (.bool true), (.int 181 0), (.ref 346), .none, .none, .none, (.ref 347), (.int 649 0), (.int 305 0), (.str (.ofString "/claim/cut.py") 650)]), #[]⟩
noncomputable def of349 (P : Params) : Obj := ⟨(.type "function"), none, (.func ⟨(.ofString "law"), (.ofString "law"), (fA s19), (.stmts (fB s19)), (fS s19), 3, [], .none, .none, .none, (.str (.ofString "law_np0195_01") 559), none, (.ref 348), .none, 0⟩), #[]⟩
noncomputable def og73 (P : Params) : Obj := ⟨(.type "dict"), none, (.dict #[⟨(PySem.PyData.keyHash P (.ofString "__name__")), (.str (.ofString "__name__") 165), (.str (.ofString "treepool.cache") 234)⟩, ⟨(PySem.PyData.keyHash P (.ofString "__doc__")), (.str (.ofString "__doc__") 166), .none⟩, ⟨(PySem.PyData.keyHash P (.ofString "__package__")), (.str (.ofString "__package__") 167), .none⟩, ⟨(PySem.PyData.keyHash P (.ofString "__loader__")), (.str (.ofString "__loader__") 168), (.builtin "__main__.__loader__#opaque")⟩, ⟨(PySem.PyData.keyHash P (.ofString "__spec__")), (.str (.ofString "__spec__") 169), .none⟩, ⟨(PySem.PyData.keyHash P (.ofString "__annotations__")), (.str (.ofString "__annotations__") 170), (.ref 6)⟩, ⟨(PySem.PyData.keyHash P (.ofString "__builtins__")), (.str (.ofString "__builtins__") 171), (.ref 4)⟩, ⟨(PySem.PyData.keyHash P (.ofString "__file__")), (.str (.ofString "__file__") 173), (.str (.ofString "/claim/cut.py") 172)⟩, ⟨(PySem.PyData.keyHash P (.ofString "__cached__")), (.str (.ofString "__cached__") 174), .none⟩, ⟨(PySem.PyData.keyHash P (.ofString "PoolFault")), (.str (.ofString "PoolFault") 217), (.ref 31)⟩, ⟨(PySem.PyData.keyHash P (.ofString "Misused")), (.str (.ofString "Misused") 233), (.ref 44)⟩, ⟨(PySem.PyData.keyHash P (.ofString "Row")), (.str (.ofString "Row") 325), (.ref 110)⟩, ⟨(PySem.PyData.keyHash P (.ofString "Counts")), (.str (.ofString "Counts") 366), (.ref 138)⟩, ⟨(PySem.PyData.keyHash P (.ofString "Cache")), (.str (.ofString "Cache") 549), (.ref 273)⟩] 14), #[]⟩
noncomputable def og712 (P : Params) : Obj := ⟨.none, none, (.fields #[(.int 2 0), (.int 0 0), (.ref 20), (.int 7 0), (.int 0 0), (.ref 40), (.int 10 0), (.int 0 0), (.ref 52), (.int 49 0), (.int 0 0), (.ref 120), (.int 62 0), (.int 0 0), (.ref 148)]), #[]⟩
noncomputable def og63 (P : Params) : Obj := ⟨(.type "dict"), none, (.dict #[⟨(PySem.PyData.keyHash P (.ofString "__name__")), (.str (.ofString "__name__") 165), (.str (.ofString "treepool.cache") 234)⟩, ⟨(PySem.PyData.keyHash P (.ofString "__doc__")), (.str (.ofString "__doc__") 166), .none⟩, ⟨(PySem.PyData.keyHash P (.ofString "__package__")), (.str (.ofString "__package__") 167), .none⟩, ⟨(PySem.PyData.keyHash P (.ofString "__loader__")), (.str (.ofString "__loader__") 168), (.builtin "__main__.__loader__#opaque")⟩, ⟨(PySem.PyData.keyHash P (.ofString "__spec__")), (.str (.ofString "__spec__") 169), .none⟩, ⟨(PySem.PyData.keyHash P (.ofString "__annotations__")), (.str (.ofString "__annotations__") 170), (.ref 6)⟩, ⟨(PySem.PyData.keyHash P (.ofString "__builtins__")), (.str (.ofString "__builtins__") 171), (.ref 4)⟩, ⟨(PySem.PyData.keyHash P (.ofString "__file__")), (.str (.ofString "__file__") 173), (.str (.ofString "/claim/cut.py") 172)⟩, ⟨(PySem.PyData.keyHash P (.ofString "__cached__")), (.str (.ofString "__cached__") 174), .none⟩, ⟨(PySem.PyData.keyHash P (.ofString "PoolFault")), (.str (.ofString "PoolFault") 217), (.ref 31)⟩, ⟨(PySem.PyData.keyHash P (.ofString "Misused")), (.str (.ofString "Misused") 233), (.ref 44)⟩, ⟨(PySem.PyData.keyHash P (.ofString "Row")), (.str (.ofString "Row") 325), (.ref 110)⟩, ⟨(PySem.PyData.keyHash P (.ofString "Counts")), (.str (.ofString "Counts") 366), (.ref 138)⟩] 13), #[]⟩
noncomputable def og612 (P : Params) : Obj := ⟨.none, none, (.fields #[(.int 2 0), (.int 0 0), (.ref 20), (.int 7 0), (.int 0 0), (.ref 40), (.int 10 0), (.int 0 0), (.ref 52), (.int 49 0), (.int 0 0), (.ref 120)]), #[]⟩
noncomputable def og53 (P : Params) : Obj := ⟨(.type "dict"), none, (.dict #[⟨(PySem.PyData.keyHash P (.ofString "__name__")), (.str (.ofString "__name__") 165), (.str (.ofString "treepool.cache") 234)⟩, ⟨(PySem.PyData.keyHash P (.ofString "__doc__")), (.str (.ofString "__doc__") 166), .none⟩, ⟨(PySem.PyData.keyHash P (.ofString "__package__")), (.str (.ofString "__package__") 167), .none⟩, ⟨(PySem.PyData.keyHash P (.ofString "__loader__")), (.str (.ofString "__loader__") 168), (.builtin "__main__.__loader__#opaque")⟩, ⟨(PySem.PyData.keyHash P (.ofString "__spec__")), (.str (.ofString "__spec__") 169), .none⟩, ⟨(PySem.PyData.keyHash P (.ofString "__annotations__")), (.str (.ofString "__annotations__") 170), (.ref 6)⟩, ⟨(PySem.PyData.keyHash P (.ofString "__builtins__")), (.str (.ofString "__builtins__") 171), (.ref 4)⟩, ⟨(PySem.PyData.keyHash P (.ofString "__file__")), (.str (.ofString "__file__") 173), (.str (.ofString "/claim/cut.py") 172)⟩, ⟨(PySem.PyData.keyHash P (.ofString "__cached__")), (.str (.ofString "__cached__") 174), .none⟩, ⟨(PySem.PyData.keyHash P (.ofString "PoolFault")), (.str (.ofString "PoolFault") 217), (.ref 31)⟩, ⟨(PySem.PyData.keyHash P (.ofString "Misused")), (.str (.ofString "Misused") 233), (.ref 44)⟩, ⟨(PySem.PyData.keyHash P (.ofString "Row")), (.str (.ofString "Row") 325), (.ref 110)⟩] 12), #[]⟩
noncomputable def og512 (P : Params) : Obj := ⟨.none, none, (.fields #[(.int 2 0), (.int 0 0), (.ref 20), (.int 7 0), (.int 0 0), (.ref 40), (.int 10 0), (.int 0 0), (.ref 52)]), #[]⟩
noncomputable def og43 (P : Params) : Obj := ⟨(.type "dict"), none, (.dict #[⟨(PySem.PyData.keyHash P (.ofString "__name__")), (.str (.ofString "__name__") 165), (.str (.ofString "treepool.cache") 234)⟩, ⟨(PySem.PyData.keyHash P (.ofString "__doc__")), (.str (.ofString "__doc__") 166), .none⟩, ⟨(PySem.PyData.keyHash P (.ofString "__package__")), (.str (.ofString "__package__") 167), .none⟩, ⟨(PySem.PyData.keyHash P (.ofString "__loader__")), (.str (.ofString "__loader__") 168), (.builtin "__main__.__loader__#opaque")⟩, ⟨(PySem.PyData.keyHash P (.ofString "__spec__")), (.str (.ofString "__spec__") 169), .none⟩, ⟨(PySem.PyData.keyHash P (.ofString "__annotations__")), (.str (.ofString "__annotations__") 170), (.ref 6)⟩, ⟨(PySem.PyData.keyHash P (.ofString "__builtins__")), (.str (.ofString "__builtins__") 171), (.ref 4)⟩, ⟨(PySem.PyData.keyHash P (.ofString "__file__")), (.str (.ofString "__file__") 173), (.str (.ofString "/claim/cut.py") 172)⟩, ⟨(PySem.PyData.keyHash P (.ofString "__cached__")), (.str (.ofString "__cached__") 174), .none⟩, ⟨(PySem.PyData.keyHash P (.ofString "PoolFault")), (.str (.ofString "PoolFault") 217), (.ref 31)⟩, ⟨(PySem.PyData.keyHash P (.ofString "Misused")), (.str (.ofString "Misused") 233), (.ref 44)⟩] 11), #[]⟩
noncomputable def og412 (P : Params) : Obj := ⟨.none, none, (.fields #[(.int 2 0), (.int 0 0), (.ref 20), (.int 7 0), (.int 0 0), (.ref 40)]), #[]⟩
noncomputable def og23 (P : Params) : Obj := ⟨(.type "dict"), none, (.dict #[⟨(PySem.PyData.keyHash P (.ofString "__name__")), (.str (.ofString "__name__") 165), (.str (.ofString "treepool.faults") 187)⟩, ⟨(PySem.PyData.keyHash P (.ofString "__doc__")), (.str (.ofString "__doc__") 166), .none⟩, ⟨(PySem.PyData.keyHash P (.ofString "__package__")), (.str (.ofString "__package__") 167), .none⟩, ⟨(PySem.PyData.keyHash P (.ofString "__loader__")), (.str (.ofString "__loader__") 168), (.builtin "__main__.__loader__#opaque")⟩, ⟨(PySem.PyData.keyHash P (.ofString "__spec__")), (.str (.ofString "__spec__") 169), .none⟩, ⟨(PySem.PyData.keyHash P (.ofString "__annotations__")), (.str (.ofString "__annotations__") 170), (.ref 6)⟩, ⟨(PySem.PyData.keyHash P (.ofString "__builtins__")), (.str (.ofString "__builtins__") 171), (.ref 4)⟩, ⟨(PySem.PyData.keyHash P (.ofString "__file__")), (.str (.ofString "__file__") 173), (.str (.ofString "/claim/cut.py") 172)⟩, ⟨(PySem.PyData.keyHash P (.ofString "__cached__")), (.str (.ofString "__cached__") 174), .none⟩, ⟨(PySem.PyData.keyHash P (.ofString "PoolFault")), (.str (.ofString "PoolFault") 217), (.ref 31)⟩] 10), #[]⟩
noncomputable def og212 (P : Params) : Obj := ⟨.none, none, (.fields #[(.int 2 0), (.int 0 0), (.ref 20)]), #[]⟩
noncomputable def og231 (P : Params) : Obj := ⟨(.type "type"), none, (.cls ⟨(.ofString "PoolFault"), [(.type "Exception")], [(.ref 31), (.type "Exception"), (.type "BaseException"), (.type "object")], 30, (.ofString "PoolFault"), true, [], [], false, none, false⟩), #[(some (.ref 15)), none, (some (.str (.ofString "PoolFault") 189)), (some (.str (.ofString "PoolFault") 197)), (some (.builtin "Exception.__new__")), (some (.bool true))]⟩
noncomputable def ha (P : Params) : Heap := ⟨⟨boot_o_0 P :: boot_o_1 P :: boot_o_2 P :: boot_o_3 P :: boot_o_4 P :: boot_o_5 P :: boot_o_6 P :: boot_o_7 P :: boot_o_8 P :: boot_o_9 P :: boot_o_10 P :: boot_o_7 P :: boot_o_8 P :: of13 P :: of14 P :: []⟩, {}⟩
noncomputable def hf (P : Params) : Heap := ⟨⟨boot_o_0 P :: boot_o_1 P :: of2 P :: of3 P :: boot_o_4 P :: boot_o_5 P :: boot_o_6 P :: boot_o_7 P :: boot_o_8 P :: boot_o_9 P :: boot_o_10 P :: boot_o_7 P :: of12 P :: of13 P :: of14 P :: of15 P :: of16 P :: of17 P :: boot_o_7 P :: of19 P :: of20 P :: of21 P :: boot_o_7 P :: boot_o_8 P :: of24 P :: boot_o_7 P :: of26 P :: of27 P :: of28 P :: of29 P :: of30 P :: of31 P :: of32 P :: of33 P :: of34 P :: of35 P :: of16 P :: of37 P :: boot_o_7 P :: boot_o_8 P :: of40 P :: of41 P :: boot_o_7 P :: of43 P :: of44 P :: of45 P :: of46 P :: boot_o_7 P :: of16 P :: of49 P :: boot_o_7 P :: of51 P :: of52 P :: of53 P :: boot_o_7 P :: boot_o_8 P :: of56 P :: boot_o_7 P :: of58 P :: of59 P :: of60 P :: boot_o_7 P :: boot_o_8 P :: of63 P :: boot_o_7 P :: of65 P :: of66 P :: of67 P :: boot_o_7 P :: boot_o_8 P :: of70 P :: boot_o_7 P :: of72 P :: of73 P :: of74 P :: boot_o_7 P :: boot_o_8 P :: of77 P :: boot_o_7 P :: of79 P :: of80 P :: of81 P :: boot_o_7 P :: boot_o_8 P :: of84 P :: boot_o_7 P :: of86 P :: of87 P :: of88 P :: boot_o_7 P :: boot_o_8 P :: of91 P :: boot_o_7 P :: of93 P :: of94 P :: of95 P :: boot_o_7 P :: boot_o_8 P :: of98 P :: boot_o_7 P :: of100 P :: of101 P :: of102 P :: boot_o_7 P :: boot_o_8 P :: of105 P :: of106 P :: of107 P :: of108 P :: of109 P :: of110 P :: of111 P :: of112 P :: of113 P :: of114 P :: boot_o_7 P :: of16 P :: of117 P :: boot_o_7 P :: of119 P :: of120 P :: of121 P :: boot_o_7 P :: boot_o_8 P :: of124 P :: boot_o_7 P :: of126 P :: of127 P :: of128 P :: boot_o_7 P :: boot_o_8 P :: of131 P :: boot_o_7 P :: of133 P :: of134 P :: of135 P :: of136 P :: of137 P :: of138 P :: of139 P :: of140 P :: of141 P :: of142 P :: boot_o_7 P :: of16 P :: of145 P :: boot_o_7 P :: of147 P :: of148 P :: of149 P :: boot_o_7 P :: boot_o_8 P :: of152 P :: boot_o_7 P :: of154 P :: of155 P :: of156 P :: boot_o_7 P :: boot_o_8 P :: of159 P :: boot_o_7 P :: of161 P :: of162 P :: of163 P :: boot_o_7 P :: boot_o_8 P :: of166 P :: boot_o_7 P :: of168 P :: of169 P :: of170 P :: of171 P :: boot_o_7 P :: boot_o_8 P :: of174 P :: boot_o_7 P :: of176 P :: of177 P :: of178 P :: boot_o_7 P :: boot_o_8 P :: of181 P :: boot_o_7 P :: of183 P :: of184 P :: of185 P :: boot_o_7 P :: boot_o_8 P :: of188 P :: boot_o_7 P :: of190 P :: of191 P :: of192 P :: boot_o_7 P :: boot_o_8 P :: of195 P :: boot_o_7 P :: of197 P :: of198 P :: of199 P :: boot_o_7 P :: boot_o_8 P :: of202 P :: boot_o_7 P :: of204 P :: of205 P :: of206 P :: boot_o_7 P :: boot_o_8 P :: of209 P :: boot_o_7 P :: of211 P :: of212 P :: of213 P :: boot_o_7 P :: boot_o_8 P :: of216 P :: boot_o_7 P :: of218 P :: of219 P :: of220 P :: boot_o_7 P :: boot_o_8 P :: of223 P :: boot_o_7 P :: of225 P :: of226 P :: of227 P :: boot_o_7 P :: boot_o_8 P :: of230 P :: boot_o_7 P :: of232 P :: of233 P :: of234 P :: boot_o_7 P :: boot_o_8 P :: of237 P :: of238 P :: of239 P :: boot_o_7 P :: boot_o_8 P :: of242 P :: boot_o_7 P :: of244 P :: of245 P :: of246 P :: boot_o_7 P :: boot_o_8 P :: of249 P :: boot_o_7 P :: of251 P :: of252 P :: of253 P :: boot_o_7 P :: boot_o_8 P :: of256 P :: boot_o_7 P :: of258 P :: of259 P :: of260 P :: boot_o_7 P :: boot_o_8 P :: of263 P :: of264 P :: of265 P :: boot_o_7 P :: boot_o_8 P :: of268 P :: of269 P :: of270 P :: of271 P :: of272 P :: of273 P :: of274 P :: of275 P :: of276 P :: of277 P :: boot_o_7 P :: boot_o_8 P :: of280 P :: boot_o_7 P :: of282 P :: of283 P :: of284 P :: boot_o_7 P :: boot_o_8 P :: of287 P :: of288 P :: of289 P :: boot_o_7 P :: boot_o_8 P :: of292 P :: of293 P :: of294 P :: boot_o_7 P :: boot_o_8 P :: of297 P :: of298 P :: of299 P :: boot_o_7 P :: boot_o_8 P :: of302 P :: boot_o_7 P :: of304 P :: of305 P :: of306 P :: boot_o_7 P :: boot_o_8 P :: of309 P :: of310 P :: of311 P :: boot_o_7 P :: boot_o_8 P :: of314 P :: boot_o_7 P :: of316 P :: of317 P :: of318 P :: boot_o_7 P :: boot_o_8 P :: of321 P :: boot_o_7 P :: of323 P :: of324 P :: of325 P :: boot_o_7 P :: boot_o_8 P :: of328 P :: boot_o_7 P :: of330 P :: of331 P :: of332 P :: boot_o_7 P :: boot_o_8 P :: of335 P :: of336 P :: of337 P :: boot_o_7 P :: boot_o_8 P :: of340 P :: boot_o_7 P :: of342 P :: of343 P :: of344 P :: boot_o_7 P :: boot_o_8 P :: of347 P :: of348 P :: of349 P :: []⟩, {}⟩
noncomputable def tb (P : Params) : BT := (.node (boot_o_0 P) (.node (boot_o_1 P) (.node (boot_o_3 P) (.node (boot_o_7 P) .nil .nil) (.node (boot_o_7 P) .nil .nil)) (.node (boot_o_5 P) (.node (boot_o_9 P) .nil .nil) (.node (of13 P) .nil .nil))) (.node (boot_o_2 P) (.node (boot_o_4 P) (.node (boot_o_8 P) .nil .nil) (.node (boot_o_8 P) .nil .nil)) (.node (boot_o_6 P) (.node (boot_o_10 P) .nil .nil) (.node (of14 P) .nil .nil))))
noncomputable def tg2 (P : Params) : BT := (.node (boot_o_0 P) (.node (boot_o_1 P) (.node (og23 P) (.node (boot_o_7 P) (.node (of15 P) (.node (og231 P) .nil .nil) .nil) (.node (boot_o_8 P) .nil .nil)) (.node (boot_o_7 P) (.node (of19 P) .nil .nil) (.node (of27 P) .nil .nil))) (.node (boot_o_5 P) (.node (boot_o_9 P) (.node (of17 P) (.node (of33 P) .nil .nil) .nil) (.node (boot_o_7 P) .nil .nil)) (.node (of13 P) (.node (of21 P) .nil .nil) (.node (of29 P) .nil .nil)))) (.node (of2 P) (.node (boot_o_4 P) (.node (boot_o_8 P) (.node (of16 P) (.node (of32 P) .nil .nil) .nil) (.node (of24 P) .nil .nil)) (.node (og212 P) (.node (of20 P) .nil .nil) (.node (of28 P) .nil .nil))) (.node (boot_o_6 P) (.node (boot_o_10 P) (.node (boot_o_7 P) (.node (of34 P) .nil .nil) .nil) (.node (of26 P) .nil .nil)) (.node (of14 P) (.node (boot_o_7 P) .nil .nil) (.node (of30 P) .nil .nil)))))
noncomputable def tg4 (P : Params) : BT := (.node (boot_o_0 P) (.node (boot_o_1 P) (.node (og43 P) (.node (boot_o_7 P) (.node (of15 P) (.node (of31 P) .nil .nil) .nil) (.node (boot_o_8 P) (.node (boot_o_8 P) .nil .nil) .nil)) (.node (boot_o_7 P) (.node (of19 P) (.node (of35 P) .nil .nil) .nil) (.node (of27 P) (.node (of43 P) .nil .nil) .nil))) (.node (boot_o_5 P) (.node (boot_o_9 P) (.node (of17 P) (.node (of33 P) .nil .nil) .nil) (.node (boot_o_7 P) (.node (of41 P) .nil .nil) .nil)) (.node (of13 P) (.node (of21 P) (.node (of37 P) .nil .nil) .nil) (.node (of29 P) (.node (of45 P) .nil .nil) .nil)))) (.node (of2 P) (.node (boot_o_4 P) (.node (boot_o_8 P) (.node (of16 P) (.node (of32 P) .nil .nil) .nil) (.node (of24 P) (.node (of40 P) .nil .nil) .nil)) (.node (og412 P) (.node (of20 P) (.node (of16 P) .nil .nil) .nil) (.node (of28 P) (.node (of44 P) .nil .nil) .nil))) (.node (boot_o_6 P) (.node (boot_o_10 P) (.node (boot_o_7 P) (.node (of34 P) .nil .nil) .nil) (.node (of26 P) (.node (boot_o_7 P) .nil .nil) .nil)) (.node (of14 P) (.node (boot_o_7 P) (.node (boot_o_7 P) .nil .nil) .nil) (.node (of30 P) (.node (of46 P) .nil .nil) .nil)))))
noncomputable def tg5 (P : Params) : BT := (.node (boot_o_0 P) (.node (boot_o_1 P) (.node (og53 P) (.node (boot_o_7 P) (.node (of15 P) (.node (of31 P) (.node (of63 P) .nil .nil) (.node (of95 P) .nil .nil)) (.node (boot_o_7 P) (.node (of79 P) .nil .nil) (.node (of111 P) .nil .nil))) (.node (boot_o_8 P) (.node (boot_o_8 P) (.node (boot_o_7 P) .nil .nil) (.node (boot_o_7 P) .nil .nil)) (.node (boot_o_8 P) (.node (of87 P) .nil .nil) .nil))) (.node (boot_o_7 P) (.node (of19 P) (.node (of35 P) (.node (of67 P) .nil .nil) (.node (boot_o_7 P) .nil .nil)) (.node (of51 P) (.node (boot_o_8 P) .nil .nil) .nil)) (.node (of27 P) (.node (of43 P) (.node (boot_o_7 P) .nil .nil) (.node (of107 P) .nil .nil)) (.node (of59 P) (.node (of91 P) .nil .nil) .nil)))) (.node (boot_o_5 P) (.node (boot_o_9 P) (.node (of17 P) (.node (of33 P) (.node (of65 P) .nil .nil) (.node (boot_o_8 P) .nil .nil)) (.node (of49 P) (.node (of81 P) .nil .nil) (.node (of113 P) .nil .nil))) (.node (boot_o_7 P) (.node (of41 P) (.node (of73 P) .nil .nil) (.node (of105 P) .nil .nil)) (.node (boot_o_7 P) (.node (boot_o_7 P) .nil .nil) .nil))) (.node (of13 P) (.node (of21 P) (.node (of37 P) (.node (boot_o_8 P) .nil .nil) (.node (of101 P) .nil .nil)) (.node (of53 P) (.node (boot_o_7 P) .nil .nil) .nil)) (.node (of29 P) (.node (of45 P) (.node (of77 P) .nil .nil) (.node (of109 P) .nil .nil)) (.node (boot_o_7 P) (.node (of93 P) .nil .nil) .nil))))) (.node (of2 P) (.node (boot_o_4 P) (.node (boot_o_8 P) (.node (of16 P) (.node (of32 P) (.node (boot_o_7 P) .nil .nil) (.node (boot_o_7 P) .nil .nil)) (.node (of16 P) (.node (of80 P) .nil .nil) (.node (of112 P) .nil .nil))) (.node (of24 P) (.node (of40 P) (.node (of72 P) .nil .nil) (.node (boot_o_8 P) .nil .nil)) (.node (of56 P) (.node (of88 P) .nil .nil) .nil))) (.node (og512 P) (.node (of20 P) (.node (of16 P) (.node (boot_o_7 P) .nil .nil) (.node (of100 P) .nil .nil)) (.node (of52 P) (.node (of84 P) .nil .nil) .nil)) (.node (of28 P) (.node (of44 P) (.node (boot_o_8 P) .nil .nil) (.node (of108 P) .nil .nil)) (.node (of60 P) (.node (boot_o_7 P) .nil .nil) .nil)))) (.node (boot_o_6 P) (.node (boot_o_10 P) (.node (boot_o_7 P) (.node (of34 P) (.node (of66 P) .nil .nil) (.node (of98 P) .nil .nil)) (.node (boot_o_7 P) (.node (boot_o_7 P) .nil .nil) (.node (of114 P) .nil .nil))) (.node (of26 P) (.node (boot_o_7 P) (.node (of74 P) .nil .nil) (.node (of106 P) .nil .nil)) (.node (of58 P) (.node (boot_o_8 P) .nil .nil) .nil))) (.node (of14 P) (.node (boot_o_7 P) (.node (boot_o_7 P) (.node (of70 P) .nil .nil) (.node (of102 P) .nil .nil)) (.node (boot_o_7 P) (.node (of86 P) .nil .nil) .nil)) (.node (of30 P) (.node (of46 P) (.node (boot_o_7 P) .nil .nil) (.node (of110 P) .nil .nil)) (.node (boot_o_8 P) (.node (of94 P) .nil .nil) .nil))))))
noncomputable def tg6 (P : Params) : BT := (.node (boot_o_0 P) (.node (boot_o_1 P) (.node (og63 P) (.node (boot_o_7 P) (.node (of15 P) (.node (of31 P) (.node (of63 P) (.node (of127 P) .nil .nil) .nil) (.node (of95 P) .nil .nil)) (.node (boot_o_7 P) (.node (of79 P) .nil .nil) (.node (of111 P) .nil .nil))) (.node (boot_o_8 P) (.node (boot_o_8 P) (.node (boot_o_7 P) (.node (of135 P) .nil .nil) .nil) (.node (boot_o_7 P) .nil .nil)) (.node (boot_o_8 P) (.node (of87 P) .nil .nil) (.node (of119 P) .nil .nil)))) (.node (boot_o_7 P) (.node (of19 P) (.node (of35 P) (.node (of67 P) (.node (of131 P) .nil .nil) .nil) (.node (boot_o_7 P) .nil .nil)) (.node (of51 P) (.node (boot_o_8 P) .nil .nil) (.node (boot_o_7 P) .nil .nil))) (.node (of27 P) (.node (of43 P) (.node (boot_o_7 P) (.node (of139 P) .nil .nil) .nil) (.node (of107 P) .nil .nil)) (.node (of59 P) (.node (of91 P) .nil .nil) (.node (boot_o_8 P) .nil .nil))))) (.node (boot_o_5 P) (.node (boot_o_9 P) (.node (of17 P) (.node (of33 P) (.node (of65 P) (.node (boot_o_7 P) .nil .nil) .nil) (.node (boot_o_8 P) .nil .nil)) (.node (of49 P) (.node (of81 P) .nil .nil) (.node (of113 P) .nil .nil))) (.node (boot_o_7 P) (.node (of41 P) (.node (of73 P) (.node (of137 P) .nil .nil) .nil) (.node (of105 P) .nil .nil)) (.node (boot_o_7 P) (.node (boot_o_7 P) .nil .nil) (.node (of121 P) .nil .nil)))) (.node (of13 P) (.node (of21 P) (.node (of37 P) (.node (boot_o_8 P) (.node (of133 P) .nil .nil) .nil) (.node (of101 P) .nil .nil)) (.node (of53 P) (.node (boot_o_7 P) .nil .nil) (.node (of117 P) .nil .nil))) (.node (of29 P) (.node (of45 P) (.node (of77 P) (.node (of141 P) .nil .nil) .nil) (.node (of109 P) .nil .nil)) (.node (boot_o_7 P) (.node (of93 P) .nil .nil) (.node (boot_o_7 P) .nil .nil)))))) (.node (of2 P) (.node (boot_o_4 P) (.node (boot_o_8 P) (.node (of16 P) (.node (of32 P) (.node (boot_o_7 P) (.node (of128 P) .nil .nil) .nil) (.node (boot_o_7 P) .nil .nil)) (.node (of16 P) (.node (of80 P) .nil .nil) (.node (of112 P) .nil .nil))) (.node (of24 P) (.node (of40 P) (.node (of72 P) (.node (of136 P) .nil .nil) .nil) (.node (boot_o_8 P) .nil .nil)) (.node (of56 P) (.node (of88 P) .nil .nil) (.node (of120 P) .nil .nil)))) (.node (og612 P) (.node (of20 P) (.node (of16 P) (.node (boot_o_7 P) (.node (boot_o_7 P) .nil .nil) .nil) (.node (of100 P) .nil .nil)) (.node (of52 P) (.node (of84 P) .nil .nil) (.node (of16 P) .nil .nil))) (.node (of28 P) (.node (of44 P) (.node (boot_o_8 P) (.node (of140 P) .nil .nil) .nil) (.node (of108 P) .nil .nil)) (.node (of60 P) (.node (boot_o_7 P) .nil .nil) (.node (of124 P) .nil .nil))))) (.node (boot_o_6 P) (.node (boot_o_10 P) (.node (boot_o_7 P) (.node (of34 P) (.node (of66 P) (.node (boot_o_8 P) .nil .nil) .nil) (.node (of98 P) .nil .nil)) (.node (boot_o_7 P) (.node (boot_o_7 P) .nil .nil) (.node (of114 P) .nil .nil))) (.node (of26 P) (.node (boot_o_7 P) (.node (of74 P) (.node (of138 P) .nil .nil) .nil) (.node (of106 P) .nil .nil)) (.node (of58 P) (.node (boot_o_8 P) .nil .nil) (.node (boot_o_7 P) .nil .nil)))) (.node (of14 P) (.node (boot_o_7 P) (.node (boot_o_7 P) (.node (of70 P) (.node (of134 P) .nil .nil) .nil) (.node (of102 P) .nil .nil)) (.node (boot_o_7 P) (.node (of86 P) .nil .nil) (.node (boot_o_7 P) .nil .nil))) (.node (of30 P) (.node (of46 P) (.node (boot_o_7 P) (.node (of142 P) .nil .nil) .nil) (.node (of110 P) .nil .nil)) (.node (boot_o_8 P) (.node (of94 P) .nil .nil) (.node (of126 P) .nil .nil)))))))
noncomputable def tg7 (P : Params) : BT := (.node (boot_o_0 P) (.node (boot_o_1 P) (.node (og73 P) (.node (boot_o_7 P) (.node (of15 P) (.node (of31 P) (.node (of63 P) (.node (of127 P) (.node (boot_o_8 P) .nil .nil) .nil) (.node (of191 P) .nil .nil)) (.node (of95 P) (.node (of159 P) .nil .nil) (.node (of223 P) .nil .nil))) (.node (boot_o_7 P) (.node (of79 P) (.node (boot_o_7 P) (.node (of271 P) .nil .nil) .nil) (.node (boot_o_7 P) .nil .nil)) (.node (of111 P) (.node (boot_o_7 P) .nil .nil) (.node (of239 P) .nil .nil)))) (.node (boot_o_8 P) (.node (boot_o_8 P) (.node (boot_o_7 P) (.node (of135 P) (.node (of263 P) .nil .nil) .nil) (.node (of199 P) .nil .nil)) (.node (boot_o_7 P) (.node (boot_o_7 P) .nil .nil) (.node (boot_o_7 P) .nil .nil))) (.node (boot_o_8 P) (.node (of87 P) (.node (boot_o_8 P) .nil .nil) (.node (boot_o_8 P) .nil .nil)) (.node (of119 P) (.node (of183 P) .nil .nil) (.node (boot_o_7 P) .nil .nil))))) (.node (boot_o_7 P) (.node (of19 P) (.node (of35 P) (.node (of67 P) (.node (of131 P) (.node (of259 P) .nil .nil) .nil) (.node (of195 P) .nil .nil)) (.node (boot_o_7 P) (.node (of163 P) .nil .nil) (.node (of227 P) .nil .nil))) (.node (of51 P) (.node (boot_o_8 P) (.node (of147 P) (.node (of275 P) .nil .nil) .nil) (.node (of211 P) .nil .nil)) (.node (boot_o_7 P) (.node (boot_o_7 P) .nil .nil) (.node (boot_o_7 P) .nil .nil)))) (.node (of27 P) (.node (of43 P) (.node (boot_o_7 P) (.node (of139 P) (.node (boot_o_8 P) .nil .nil) .nil) (.node (boot_o_7 P) .nil .nil)) (.node (of107 P) (.node (of171 P) .nil .nil) (.node (boot_o_7 P) .nil .nil))) (.node (of59 P) (.node (of91 P) (.node (of155 P) .nil .nil) (.node (of219 P) .nil .nil)) (.node (boot_o_8 P) (.node (boot_o_8 P) .nil .nil) (.node (of251 P) .nil .nil)))))) (.node (boot_o_5 P) (.node (boot_o_9 P) (.node (of17 P) (.node (of33 P) (.node (of65 P) (.node (boot_o_7 P) (.node (boot_o_7 P) .nil .nil) .nil) (.node (boot_o_7 P) .nil .nil)) (.node (boot_o_8 P) (.node (of161 P) .nil .nil) (.node (of225 P) .nil .nil))) (.node (of49 P) (.node (of81 P) (.node (of145 P) (.node (of273 P) .nil .nil) .nil) (.node (of209 P) .nil .nil)) (.node (of113 P) (.node (of177 P) .nil .nil) (.node (boot_o_8 P) .nil .nil)))) (.node (boot_o_7 P) (.node (of41 P) (.node (of73 P) (.node (of137 P) (.node (of265 P) .nil .nil) .nil) (.node (boot_o_8 P) .nil .nil)) (.node (of105 P) (.node (of169 P) .nil .nil) (.node (of233 P) .nil .nil))) (.node (boot_o_7 P) (.node (boot_o_7 P) (.node (boot_o_7 P) .nil .nil) (.node (boot_o_7 P) .nil .nil)) (.node (of121 P) (.node (of185 P) .nil .nil) (.node (of249 P) .nil .nil))))) (.node (of13 P) (.node (of21 P) (.node (of37 P) (.node (boot_o_8 P) (.node (of133 P) (.node (boot_o_7 P) .nil .nil) .nil) (.node (of197 P) .nil .nil)) (.node (of101 P) (.node (boot_o_8 P) .nil .nil) (.node (boot_o_8 P) .nil .nil))) (.node (of53 P) (.node (boot_o_7 P) (.node (of149 P) (.node (of277 P) .nil .nil) .nil) (.node (of213 P) .nil .nil)) (.node (of117 P) (.node (of181 P) .nil .nil) (.node (of245 P) .nil .nil)))) (.node (of29 P) (.node (of45 P) (.node (of77 P) (.node (of141 P) (.node (of269 P) .nil .nil) .nil) (.node (of205 P) .nil .nil)) (.node (of109 P) (.node (boot_o_8 P) .nil .nil) (.node (of237 P) .nil .nil))) (.node (boot_o_7 P) (.node (of93 P) (.node (boot_o_7 P) .nil .nil) (.node (boot_o_7 P) .nil .nil)) (.node (boot_o_7 P) (.node (boot_o_7 P) .nil .nil) (.node (of253 P) .nil .nil))))))) (.node (of2 P) (.node (boot_o_4 P) (.node (boot_o_8 P) (.node (of16 P) (.node (of32 P) (.node (boot_o_7 P) (.node (of128 P) (.node (of256 P) .nil .nil) .nil) (.node (of192 P) .nil .nil)) (.node (boot_o_7 P) (.node (boot_o_7 P) .nil .nil) (.node (boot_o_7 P) .nil .nil))) (.node (of16 P) (.node (of80 P) (.node (of16 P) (.node (of272 P) .nil .nil) .nil) (.node (boot_o_8 P) .nil .nil)) (.node (of112 P) (.node (of176 P) .nil .nil) (.node (boot_o_7 P) .nil .nil)))) (.node (of24 P) (.node (of40 P) (.node (of72 P) (.node (of136 P) (.node (of264 P) .nil .nil) .nil) (.node (boot_o_7 P) .nil .nil)) (.node (boot_o_8 P) (.node (of168 P) .nil .nil) (.node (of232 P) .nil .nil))) (.node (of56 P) (.node (of88 P) (.node (of152 P) .nil .nil) (.node (of216 P) .nil .nil)) (.node (of120 P) (.node (of184 P) .nil .nil) (.node (boot_o_8 P) .nil .nil))))) (.node (og712 P) (.node (of20 P) (.node (of16 P) (.node (boot_o_7 P) (.node (boot_o_7 P) (.node (of260 P) .nil .nil) .nil) (.node (boot_o_7 P) .nil .nil)) (.node (of100 P) (.node (boot_o_7 P) .nil .nil) (.node (boot_o_7 P) .nil .nil))) (.node (of52 P) (.node (of84 P) (.node (of148 P) (.node (of276 P) .nil .nil) .nil) (.node (of212 P) .nil .nil)) (.node (of16 P) (.node (boot_o_8 P) .nil .nil) (.node (of244 P) .nil .nil)))) (.node (of28 P) (.node (of44 P) (.node (boot_o_8 P) (.node (of140 P) (.node (of268 P) .nil .nil) .nil) (.node (of204 P) .nil .nil)) (.node (of108 P) (.node (boot_o_7 P) .nil .nil) (.node (boot_o_8 P) .nil .nil))) (.node (of60 P) (.node (boot_o_7 P) (.node (of156 P) .nil .nil) (.node (of220 P) .nil .nil)) (.node (of124 P) (.node (of188 P) .nil .nil) (.node (of252 P) .nil .nil)))))) (.node (boot_o_6 P) (.node (boot_o_10 P) (.node (boot_o_7 P) (.node (of34 P) (.node (of66 P) (.node (boot_o_8 P) (.node (of258 P) .nil .nil) .nil) (.node (boot_o_8 P) .nil .nil)) (.node (of98 P) (.node (of162 P) .nil .nil) (.node (of226 P) .nil .nil))) (.node (boot_o_7 P) (.node (boot_o_7 P) (.node (boot_o_7 P) (.node (of274 P) .nil .nil) .nil) (.node (boot_o_7 P) .nil .nil)) (.node (of114 P) (.node (of178 P) .nil .nil) (.node (of242 P) .nil .nil)))) (.node (of26 P) (.node (boot_o_7 P) (.node (of74 P) (.node (of138 P) (.node (boot_o_7 P) .nil .nil) .nil) (.node (of202 P) .nil .nil)) (.node (of106 P) (.node (of170 P) .nil .nil) (.node (of234 P) .nil .nil))) (.node (of58 P) (.node (boot_o_8 P) (.node (of154 P) .nil .nil) (.node (of218 P) .nil .nil)) (.node (boot_o_7 P) (.node (boot_o_7 P) .nil .nil) (.node (boot_o_7 P) .nil .nil))))) (.node (of14 P) (.node (boot_o_7 P) (.node (boot_o_7 P) (.node (of70 P) (.node (of134 P) (.node (boot_o_8 P) .nil .nil) .nil) (.node (of198 P) .nil .nil)) (.node (of102 P) (.node (of166 P) .nil .nil) (.node (of230 P) .nil .nil))) (.node (boot_o_7 P) (.node (of86 P) (.node (boot_o_7 P) .nil .nil) (.node (boot_o_7 P) .nil .nil)) (.node (boot_o_7 P) (.node (boot_o_7 P) .nil .nil) (.node (of246 P) .nil .nil)))) (.node (of30 P) (.node (of46 P) (.node (boot_o_7 P) (.node (of142 P) (.node (of270 P) .nil .nil) .nil) (.node (of206 P) .nil .nil)) (.node (of110 P) (.node (of174 P) .nil .nil) (.node (of238 P) .nil .nil))) (.node (boot_o_8 P) (.node (of94 P) (.node (boot_o_8 P) .nil .nil) (.node (boot_o_8 P) .nil .nil)) (.node (of126 P) (.node (of190 P) .nil .nil) (.node (boot_o_7 P) .nil .nil))))))))
noncomputable def tf (P : Params) : BT := (.node (boot_o_0 P) (.node (boot_o_1 P) (.node (of3 P) (.node (boot_o_7 P) (.node (of15 P) (.node (of31 P) (.node (of63 P) (.node (of127 P) (.node (boot_o_8 P) .nil .nil) .nil) (.node (of191 P) (.node (boot_o_7 P) .nil .nil) .nil)) (.node (of95 P) (.node (of159 P) (.node (of287 P) .nil .nil) .nil) (.node (of223 P) .nil .nil))) (.node (boot_o_7 P) (.node (of79 P) (.node (boot_o_7 P) (.node (of271 P) .nil .nil) .nil) (.node (boot_o_7 P) (.node (of335 P) .nil .nil) .nil)) (.node (of111 P) (.node (boot_o_7 P) (.node (boot_o_7 P) .nil .nil) .nil) (.node (of239 P) .nil .nil)))) (.node (boot_o_8 P) (.node (boot_o_8 P) (.node (boot_o_7 P) (.node (of135 P) (.node (of263 P) .nil .nil) .nil) (.node (of199 P) (.node (boot_o_8 P) .nil .nil) .nil)) (.node (boot_o_7 P) (.node (boot_o_7 P) (.node (boot_o_7 P) .nil .nil) .nil) (.node (boot_o_7 P) .nil .nil))) (.node (boot_o_8 P) (.node (of87 P) (.node (boot_o_8 P) (.node (boot_o_8 P) .nil .nil) .nil) (.node (boot_o_8 P) (.node (of343 P) .nil .nil) .nil)) (.node (of119 P) (.node (of183 P) (.node (of311 P) .nil .nil) .nil) (.node (boot_o_7 P) .nil .nil))))) (.node (boot_o_7 P) (.node (of19 P) (.node (of35 P) (.node (of67 P) (.node (of131 P) (.node (of259 P) .nil .nil) .nil) (.node (of195 P) (.node (of323 P) .nil .nil) .nil)) (.node (boot_o_7 P) (.node (of163 P) (.node (boot_o_8 P) .nil .nil) .nil) (.node (of227 P) .nil .nil))) (.node (of51 P) (.node (boot_o_8 P) (.node (of147 P) (.node (of275 P) .nil .nil) .nil) (.node (of211 P) (.node (boot_o_8 P) .nil .nil) .nil)) (.node (boot_o_7 P) (.node (boot_o_7 P) (.node (boot_o_7 P) .nil .nil) .nil) (.node (boot_o_7 P) .nil .nil)))) (.node (of27 P) (.node (of43 P) (.node (boot_o_7 P) (.node (of139 P) (.node (boot_o_8 P) .nil .nil) .nil) (.node (boot_o_7 P) (.node (of331 P) .nil .nil) .nil)) (.node (of107 P) (.node (of171 P) (.node (of299 P) .nil .nil) .nil) (.node (boot_o_7 P) .nil .nil))) (.node (of59 P) (.node (of91 P) (.node (of155 P) (.node (of283 P) .nil .nil) .nil) (.node (of219 P) (.node (of347 P) .nil .nil) .nil)) (.node (boot_o_8 P) (.node (boot_o_8 P) (.node (boot_o_7 P) .nil .nil) .nil) (.node (of251 P) .nil .nil)))))) (.node (boot_o_5 P) (.node (boot_o_9 P) (.node (of17 P) (.node (of33 P) (.node (of65 P) (.node (boot_o_7 P) (.node (boot_o_7 P) .nil .nil) .nil) (.node (boot_o_7 P) (.node (of321 P) .nil .nil) .nil)) (.node (boot_o_8 P) (.node (of161 P) (.node (of289 P) .nil .nil) .nil) (.node (of225 P) .nil .nil))) (.node (of49 P) (.node (of81 P) (.node (of145 P) (.node (of273 P) .nil .nil) .nil) (.node (of209 P) (.node (of337 P) .nil .nil) .nil)) (.node (of113 P) (.node (of177 P) (.node (of305 P) .nil .nil) .nil) (.node (boot_o_8 P) .nil .nil)))) (.node (boot_o_7 P) (.node (of41 P) (.node (of73 P) (.node (of137 P) (.node (of265 P) .nil .nil) .nil) (.node (boot_o_8 P) (.node (boot_o_7 P) .nil .nil) .nil)) (.node (of105 P) (.node (of169 P) (.node (of297 P) .nil .nil) .nil) (.node (of233 P) .nil .nil))) (.node (boot_o_7 P) (.node (boot_o_7 P) (.node (boot_o_7 P) (.node (boot_o_7 P) .nil .nil) .nil) (.node (boot_o_7 P) (.node (boot_o_7 P) .nil .nil) .nil)) (.node (of121 P) (.node (of185 P) (.node (boot_o_8 P) .nil .nil) .nil) (.node (of249 P) .nil .nil))))) (.node (of13 P) (.node (of21 P) (.node (of37 P) (.node (boot_o_8 P) (.node (of133 P) (.node (boot_o_7 P) .nil .nil) .nil) (.node (of197 P) (.node (of325 P) .nil .nil) .nil)) (.node (of101 P) (.node (boot_o_8 P) (.node (of293 P) .nil .nil) .nil) (.node (boot_o_8 P) .nil .nil))) (.node (of53 P) (.node (boot_o_7 P) (.node (of149 P) (.node (of277 P) .nil .nil) .nil) (.node (of213 P) (.node (boot_o_7 P) .nil .nil) .nil)) (.node (of117 P) (.node (of181 P) (.node (of309 P) .nil .nil) .nil) (.node (of245 P) .nil .nil)))) (.node (of29 P) (.node (of45 P) (.node (of77 P) (.node (of141 P) (.node (of269 P) .nil .nil) .nil) (.node (of205 P) (.node (boot_o_7 P) .nil .nil) .nil)) (.node (of109 P) (.node (boot_o_8 P) (.node (boot_o_8 P) .nil .nil) .nil) (.node (of237 P) .nil .nil))) (.node (boot_o_7 P) (.node (of93 P) (.node (boot_o_7 P) (.node (boot_o_7 P) .nil .nil) .nil) (.node (boot_o_7 P) (.node (of349 P) .nil .nil) .nil)) (.node (boot_o_7 P) (.node (boot_o_7 P) (.node (of317 P) .nil .nil) .nil) (.node (of253 P) .nil .nil))))))) (.node (of2 P) (.node (boot_o_4 P) (.node (boot_o_8 P) (.node (of16 P) (.node (of32 P) (.node (boot_o_7 P) (.node (of128 P) (.node (of256 P) .nil .nil) .nil) (.node (of192 P) (.node (boot_o_8 P) .nil .nil) .nil)) (.node (boot_o_7 P) (.node (boot_o_7 P) (.node (of288 P) .nil .nil) .nil) (.node (boot_o_7 P) .nil .nil))) (.node (of16 P) (.node (of80 P) (.node (of16 P) (.node (of272 P) .nil .nil) .nil) (.node (boot_o_8 P) (.node (of336 P) .nil .nil) .nil)) (.node (of112 P) (.node (of176 P) (.node (of304 P) .nil .nil) .nil) (.node (boot_o_7 P) .nil .nil)))) (.node (of24 P) (.node (of40 P) (.node (of72 P) (.node (of136 P) (.node (of264 P) .nil .nil) .nil) (.node (boot_o_7 P) (.node (of328 P) .nil .nil) .nil)) (.node (boot_o_8 P) (.node (of168 P) (.node (boot_o_8 P) .nil .nil) .nil) (.node (of232 P) .nil .nil))) (.node (of56 P) (.node (of88 P) (.node (of152 P) (.node (of280 P) .nil .nil) .nil) (.node (of216 P) (.node (of344 P) .nil .nil) .nil)) (.node (of120 P) (.node (of184 P) (.node (boot_o_7 P) .nil .nil) .nil) (.node (boot_o_8 P) .nil .nil))))) (.node (of12 P) (.node (of20 P) (.node (of16 P) (.node (boot_o_7 P) (.node (boot_o_7 P) (.node (of260 P) .nil .nil) .nil) (.node (boot_o_7 P) (.node (of324 P) .nil .nil) .nil)) (.node (of100 P) (.node (boot_o_7 P) (.node (of292 P) .nil .nil) .nil) (.node (boot_o_7 P) .nil .nil))) (.node (of52 P) (.node (of84 P) (.node (of148 P) (.node (of276 P) .nil .nil) .nil) (.node (of212 P) (.node (of340 P) .nil .nil) .nil)) (.node (of16 P) (.node (boot_o_8 P) (.node (boot_o_8 P) .nil .nil) .nil) (.node (of244 P) .nil .nil)))) (.node (of28 P) (.node (of44 P) (.node (boot_o_8 P) (.node (of140 P) (.node (of268 P) .nil .nil) .nil) (.node (of204 P) (.node (of332 P) .nil .nil) .nil)) (.node (of108 P) (.node (boot_o_7 P) (.node (boot_o_7 P) .nil .nil) .nil) (.node (boot_o_8 P) .nil .nil))) (.node (of60 P) (.node (boot_o_7 P) (.node (of156 P) (.node (of284 P) .nil .nil) .nil) (.node (of220 P) (.node (of348 P) .nil .nil) .nil)) (.node (of124 P) (.node (of188 P) (.node (of316 P) .nil .nil) .nil) (.node (of252 P) .nil .nil)))))) (.node (boot_o_6 P) (.node (boot_o_10 P) (.node (boot_o_7 P) (.node (of34 P) (.node (of66 P) (.node (boot_o_8 P) (.node (of258 P) .nil .nil) .nil) (.node (boot_o_8 P) (.node (boot_o_7 P) .nil .nil) .nil)) (.node (of98 P) (.node (of162 P) (.node (boot_o_7 P) .nil .nil) .nil) (.node (of226 P) .nil .nil))) (.node (boot_o_7 P) (.node (boot_o_7 P) (.node (boot_o_7 P) (.node (of274 P) .nil .nil) .nil) (.node (boot_o_7 P) (.node (boot_o_7 P) .nil .nil) .nil)) (.node (of114 P) (.node (of178 P) (.node (of306 P) .nil .nil) .nil) (.node (of242 P) .nil .nil)))) (.node (of26 P) (.node (boot_o_7 P) (.node (of74 P) (.node (of138 P) (.node (boot_o_7 P) .nil .nil) .nil) (.node (of202 P) (.node (of330 P) .nil .nil) .nil)) (.node (of106 P) (.node (of170 P) (.node (of298 P) .nil .nil) .nil) (.node (of234 P) .nil .nil))) (.node (of58 P) (.node (boot_o_8 P) (.node (of154 P) (.node (of282 P) .nil .nil) .nil) (.node (of218 P) (.node (boot_o_8 P) .nil .nil) .nil)) (.node (boot_o_7 P) (.node (boot_o_7 P) (.node (of314 P) .nil .nil) .nil) (.node (boot_o_7 P) .nil .nil))))) (.node (of14 P) (.node (boot_o_7 P) (.node (boot_o_7 P) (.node (of70 P) (.node (of134 P) (.node (boot_o_8 P) .nil .nil) .nil) (.node (of198 P) (.node (boot_o_7 P) .nil .nil) .nil)) (.node (of102 P) (.node (of166 P) (.node (of294 P) .nil .nil) .nil) (.node (of230 P) .nil .nil))) (.node (boot_o_7 P) (.node (of86 P) (.node (boot_o_7 P) (.node (boot_o_7 P) .nil .nil) .nil) (.node (boot_o_7 P) (.node (of342 P) .nil .nil) .nil)) (.node (boot_o_7 P) (.node (boot_o_7 P) (.node (of310 P) .nil .nil) .nil) (.node (of246 P) .nil .nil)))) (.node (of30 P) (.node (of46 P) (.node (boot_o_7 P) (.node (of142 P) (.node (of270 P) .nil .nil) .nil) (.node (of206 P) (.node (boot_o_8 P) .nil .nil) .nil)) (.node (of110 P) (.node (of174 P) (.node (of302 P) .nil .nil) .nil) (.node (of238 P) .nil .nil))) (.node (boot_o_8 P) (.node (of94 P) (.node (boot_o_8 P) (.node (boot_o_8 P) .nil .nil) .nil) (.node (boot_o_8 P) .nil .nil)) (.node (of126 P) (.node (of190 P) (.node (of318 P) .nil .nil) .nil) (.node (boot_o_7 P) .nil .nil))))))))
noncomputable def KF (P : Params) : Frag := (nat_lit 2, of2 P) :: (nat_lit 3, of3 P) :: (nat_lit 15, of15 P) :: (nat_lit 22, boot_o_7 P) :: (nat_lit 24, of24 P) :: (nat_lit 25, boot_o_7 P) :: (nat_lit 27, of27 P) :: (nat_lit 28, of28 P) :: (nat_lit 29, of29 P) :: (nat_lit 30, of30 P) :: (nat_lit 31, of31 P) :: (nat_lit 32, of32 P) :: (nat_lit 35, of35 P) :: (nat_lit 42, boot_o_7 P) :: (nat_lit 43, of43 P) :: (nat_lit 44, of44 P) :: (nat_lit 54, boot_o_7 P) :: (nat_lit 56, of56 P) :: (nat_lit 57, boot_o_7 P) :: (nat_lit 59, of59 P) :: (nat_lit 60, of60 P) :: (nat_lit 61, boot_o_7 P) :: (nat_lit 63, of63 P) :: (nat_lit 64, boot_o_7 P) :: (nat_lit 66, of66 P) :: (nat_lit 67, of67 P) :: (nat_lit 68, boot_o_7 P) :: (nat_lit 70, of70 P) :: (nat_lit 71, boot_o_7 P) :: (nat_lit 73, of73 P) :: (nat_lit 74, of74 P) :: (nat_lit 75, boot_o_7 P) :: (nat_lit 77, of77 P) :: (nat_lit 78, boot_o_7 P) :: (nat_lit 80, of80 P) :: (nat_lit 81, of81 P) :: (nat_lit 82, boot_o_7 P) :: (nat_lit 84, of84 P) :: (nat_lit 85, boot_o_7 P) :: (nat_lit 87, of87 P) :: (nat_lit 88, of88 P) :: (nat_lit 89, boot_o_7 P) :: (nat_lit 91, of91 P) :: (nat_lit 92, boot_o_7 P) :: (nat_lit 94, of94 P) :: (nat_lit 95, of95 P) :: (nat_lit 96, boot_o_7 P) :: (nat_lit 98, of98 P) :: (nat_lit 99, boot_o_7 P) :: (nat_lit 101, of101 P) :: (nat_lit 102, of102 P) :: (nat_lit 103, boot_o_7 P) :: (nat_lit 106, of106 P) :: (nat_lit 107, of107 P) :: (nat_lit 108, of108 P) :: (nat_lit 109, of109 P) :: (nat_lit 110, of110 P) :: (nat_lit 111, of111 P) :: (nat_lit 112, of112 P) :: (nat_lit 122, boot_o_7 P) :: (nat_lit 124, of124 P) :: (nat_lit 125, boot_o_7 P) :: (nat_lit 127, of127 P) :: (nat_lit 128, of128 P) :: (nat_lit 129, boot_o_7 P) :: (nat_lit 131, of131 P) :: (nat_lit 132, boot_o_7 P) :: (nat_lit 134, of134 P) :: (nat_lit 135, of135 P) :: (nat_lit 136, of136 P) :: (nat_lit 137, of137 P) :: (nat_lit 138, of138 P) :: (nat_lit 139, of139 P) :: (nat_lit 140, of140 P) :: (nat_lit 150, boot_o_7 P) :: (nat_lit 152, of152 P) :: (nat_lit 153, boot_o_7 P) :: (nat_lit 155, of155 P) :: (nat_lit 156, of156 P) :: (nat_lit 157, boot_o_7 P) :: (nat_lit 159, of159 P) :: (nat_lit 160, boot_o_7 P) :: (nat_lit 162, of162 P) :: (nat_lit 163, of163 P) :: (nat_lit 164, boot_o_7 P) :: (nat_lit 166, of166 P) :: (nat_lit 167, boot_o_7 P) :: (nat_lit 169, of169 P) :: (nat_lit 170, of170 P) :: (nat_lit 171, of171 P) :: (nat_lit 172, boot_o_7 P) :: (nat_lit 174, of174 P) :: (nat_lit 175, boot_o_7 P) :: (nat_lit 177, of177 P) :: (nat_lit 178, of178 P) :: (nat_lit 179, boot_o_7 P) :: (nat_lit 181, of181 P) :: (nat_lit 182, boot_o_7 P) :: (nat_lit 184, of184 P) :: (nat_lit 185, of185 P) :: (nat_lit 186, boot_o_7 P) :: (nat_lit 188, of188 P) :: (nat_lit 189, boot_o_7 P) :: (nat_lit 191, of191 P) :: (nat_lit 192, of192 P) :: (nat_lit 193, boot_o_7 P) :: (nat_lit 195, of195 P) :: (nat_lit 196, boot_o_7 P) :: (nat_lit 198, of198 P) :: (nat_lit 199, of199 P) :: (nat_lit 200, boot_o_7 P) :: (nat_lit 202, of202 P) :: (nat_lit 203, boot_o_7 P) :: (nat_lit 205, of205 P) :: (nat_lit 206, of206 P) :: (nat_lit 207, boot_o_7 P) :: (nat_lit 209, of209 P) :: (nat_lit 210, boot_o_7 P) :: (nat_lit 212, of212 P) :: (nat_lit 213, of213 P) :: (nat_lit 214, boot_o_7 P) :: (nat_lit 216, of216 P) :: (nat_lit 217, boot_o_7 P) :: (nat_lit 219, of219 P) :: (nat_lit 220, of220 P) :: (nat_lit 221, boot_o_7 P) :: (nat_lit 223, of223 P) :: (nat_lit 224, boot_o_7 P) :: (nat_lit 226, of226 P) :: (nat_lit 227, of227 P) :: (nat_lit 228, boot_o_7 P) :: (nat_lit 230, of230 P) :: (nat_lit 231, boot_o_7 P) :: (nat_lit 233, of233 P) :: (nat_lit 234, of234 P) :: (nat_lit 235, boot_o_7 P) :: (nat_lit 238, of238 P) :: (nat_lit 239, of239 P) :: (nat_lit 240, boot_o_7 P) :: (nat_lit 242, of242 P) :: (nat_lit 243, boot_o_7 P) :: (nat_lit 245, of245 P) :: (nat_lit 246, of246 P) :: (nat_lit 247, boot_o_7 P) :: (nat_lit 249, of249 P) :: (nat_lit 250, boot_o_7 P) :: (nat_lit 252, of252 P) :: (nat_lit 253, of253 P) :: (nat_lit 254, boot_o_7 P) :: (nat_lit 256, of256 P) :: (nat_lit 257, boot_o_7 P) :: (nat_lit 259, of259 P) :: (nat_lit 260, of260 P) :: (nat_lit 261, boot_o_7 P) :: (nat_lit 264, of264 P) :: (nat_lit 265, of265 P) :: (nat_lit 266, boot_o_7 P) :: (nat_lit 269, of269 P) :: (nat_lit 270, of270 P) :: (nat_lit 271, of271 P) :: (nat_lit 272, of272 P) :: (nat_lit 273, of273 P) :: (nat_lit 274, of274 P) :: (nat_lit 275, of275 P) :: (nat_lit 278, boot_o_7 P) :: (nat_lit 280, of280 P) :: (nat_lit 281, boot_o_7 P) :: (nat_lit 283, of283 P) :: (nat_lit 284, of284 P) :: (nat_lit 285, boot_o_7 P) :: (nat_lit 288, of288 P) :: (nat_lit 289, of289 P) :: (nat_lit 290, boot_o_7 P) :: (nat_lit 293, of293 P) :: (nat_lit 294, of294 P) :: (nat_lit 295, boot_o_7 P) :: (nat_lit 298, of298 P) :: (nat_lit 299, of299 P) :: (nat_lit 300, boot_o_7 P) :: (nat_lit 302, of302 P) :: (nat_lit 303, boot_o_7 P) :: (nat_lit 305, of305 P) :: (nat_lit 306, of306 P) :: (nat_lit 307, boot_o_7 P) :: (nat_lit 310, of310 P) :: (nat_lit 311, of311 P) :: (nat_lit 312, boot_o_7 P) :: (nat_lit 314, of314 P) :: (nat_lit 315, boot_o_7 P) :: (nat_lit 317, of317 P) :: (nat_lit 318, of318 P) :: (nat_lit 319, boot_o_7 P) :: (nat_lit 321, of321 P) :: (nat_lit 322, boot_o_7 P) :: (nat_lit 324, of324 P) :: (nat_lit 325, of325 P) :: (nat_lit 326, boot_o_7 P) :: (nat_lit 328, of328 P) :: (nat_lit 329, boot_o_7 P) :: (nat_lit 331, of331 P) :: (nat_lit 332, of332 P) :: (nat_lit 333, boot_o_7 P) :: (nat_lit 336, of336 P) :: (nat_lit 337, of337 P) :: (nat_lit 338, boot_o_7 P) :: (nat_lit 340, of340 P) :: (nat_lit 341, boot_o_7 P) :: (nat_lit 343, of343 P) :: (nat_lit 344, of344 P) :: (nat_lit 345, boot_o_7 P) :: (nat_lit 348, of348 P) :: (nat_lit 349, of349 P) :: []
noncomputable def KA : List Addr := 2 :: 3 :: 15 :: 22 :: 24 :: 25 :: 27 :: 28 :: 29 :: 30 :: 31 :: 32 :: 35 :: 42 :: 43 :: 44 :: 54 :: 56 :: 57 :: 59 :: 60 :: 61 :: 63 :: 64 :: 66 :: 67 :: 68 :: 70 :: 71 :: 73 :: 74 :: 75 :: 77 :: 78 :: 80 :: 81 :: 82 :: 84 :: 85 :: 87 :: 88 :: 89 :: 91 :: 92 :: 94 :: 95 :: 96 :: 98 :: 99 :: 101 :: 102 :: 103 :: 106 :: 107 :: 108 :: 109 :: 110 :: 111 :: 112 :: 122 :: 124 :: 125 :: 127 :: 128 :: 129 :: 131 :: 132 :: 134 :: 135 :: 136 :: 137 :: 138 :: 139 :: 140 :: 150 :: 152 :: 153 :: 155 :: 156 :: 157 :: 159 :: 160 :: 162 :: 163 :: 164 :: 166 :: 167 :: 169 :: 170 :: 171 :: 172 :: 174 :: 175 :: 177 :: 178 :: 179 :: 181 :: 182 :: 184 :: 185 :: 186 :: 188 :: 189 :: 191 :: 192 :: 193 :: 195 :: 196 :: 198 :: 199 :: 200 :: 202 :: 203 :: 205 :: 206 :: 207 :: 209 :: 210 :: 212 :: 213 :: 214 :: 216 :: 217 :: 219 :: 220 :: 221 :: 223 :: 224 :: 226 :: 227 :: 228 :: 230 :: 231 :: 233 :: 234 :: 235 :: 238 :: 239 :: 240 :: 242 :: 243 :: 245 :: 246 :: 247 :: 249 :: 250 :: 252 :: 253 :: 254 :: 256 :: 257 :: 259 :: 260 :: 261 :: 264 :: 265 :: 266 :: 269 :: 270 :: 271 :: 272 :: 273 :: 274 :: 275 :: 278 :: 280 :: 281 :: 283 :: 284 :: 285 :: 288 :: 289 :: 290 :: 293 :: 294 :: 295 :: 298 :: 299 :: 300 :: 302 :: 303 :: 305 :: 306 :: 307 :: 310 :: 311 :: 312 :: 314 :: 315 :: 317 :: 318 :: 319 :: 321 :: 322 :: 324 :: 325 :: 326 :: 328 :: 329 :: 331 :: 332 :: 333 :: 336 :: 337 :: 338 :: 340 :: 341 :: 343 :: 344 :: 345 :: 348 :: 349 :: []
noncomputable def EV : Env := { scope := PW.main.scope, locals := mainNs, globals := mainNs, cells := [], code := .ref 13, frame := some 14 }
noncomputable def BB : List Stmt := behindTheImports PW
theorem r_pre (w : World) (os : OsState) : topGo treeTable PW w 11 (some (.ref 6)) 12 ⟨boot_heap w.params, #[], boot_drawn, boot_toks, os⟩ (topStub PW) =
    some (⟨ha w.params, #[], {}, 187, os⟩, ⟨denote treeTable (.body BB EV), .body BB EV, ⟨0, 0, 0, 0⟩, [topFrame ⟨0, 0, 0, 0⟩]⟩) := by kernel_rfl
theorem r_block (w : World) (os : OsState) : segRun treeTable PW w 11 (some (.ref 6)) 1 1 ⟨ha w.params, #[], {}, 187, os⟩ (blockOf BB EV (.body BB EV) ⟨0, 0, 0, 0⟩ [topFrame ⟨0, 0, 0, 0⟩]) =
    some (.next, SharedT.abs ⟨tb w.params, 15, {}, #[], {}, 187, os⟩, .body BB EV, ⟨0, 0, 0, 0⟩) := by kernel_rfl
theorem r_g2 (w : World) (os : OsState) : segRunT treeTable PW w 11 (some (.ref 6)) 1 238 ⟨tb w.params, 15, {}, #[], {}, 187, os⟩ (piecesOf ((BB.drop 0).take 2) EV (.body BB EV) ⟨0, 0, 0, 0⟩ [topFrame ⟨0, 0, 0, 0⟩]) =
    some (.next, ⟨tg2 w.params, 35, {}, #[], {}, 218, os⟩, .body BB EV, ⟨2, 0, 6, 22⟩) := by
  rw [PySem.W.Fast.te10110043849684766642, PySem.W.Fast.te14364793385576792824]; kernel_rfl
theorem r_g4 (w : World) (os : OsState) : segRunT treeTable PW w 11 (some (.ref 6)) 1 223 ⟨tg2 w.params, 35, {}, #[], {}, 218, os⟩ (piecesOf ((BB.drop 2).take 2) EV (.body BB EV) ⟨2, 0, 6, 22⟩ [topFrame ⟨0, 0, 0, 0⟩]) =
    some (.next, ⟨tg4 w.params, 47, {}, #[], {}, 236, os⟩, .body BB EV, ⟨9, 0, 9, 8⟩) := by
  rw [PySem.W.Fast.te10110043849684766642, PySem.W.Fast.te14364793385576792824]; kernel_rfl
theorem r_g5 (w : World) (os : OsState) : segRunT treeTable PW w 11 (some (.ref 6)) 1 450 ⟨tg4 w.params, 47, {}, #[], {}, 236, os⟩ (piecesOf ((BB.drop 4).take 1) EV (.body BB EV) ⟨9, 0, 9, 8⟩ [topFrame ⟨0, 0, 0, 0⟩]) =
    some (.next, ⟨tg5 w.params, 115, {}, #[], {}, 326, os⟩, .body BB EV, ⟨10, 0, 48, 67⟩) := by
  rw [PySem.W.Fast.te10110043849684766642, PySem.W.Fast.te14364793385576792824]; kernel_rfl
theorem r_g6 (w : World) (os : OsState) : segRunT treeTable PW w 11 (some (.ref 6)) 1 259 ⟨tg5 w.params, 115, {}, #[], {}, 326, os⟩ (piecesOf ((BB.drop 5).take 1) EV (.body BB EV) ⟨10, 0, 48, 67⟩ [topFrame ⟨0, 0, 0, 0⟩]) =
    some (.next, ⟨tg6 w.params, 143, {}, #[], {}, 367, os⟩, .body BB EV, ⟨49, 0, 61, 77⟩) := by
  rw [PySem.W.Fast.te10110043849684766642, PySem.W.Fast.te14364793385576792824]; kernel_rfl
theorem r_g7 (w : World) (os : OsState) : segRunT treeTable PW w 11 (some (.ref 6)) 1 780 ⟨tg6 w.params, 143, {}, #[], {}, 367, os⟩ (piecesOf ((BB.drop 6).take 1) EV (.body BB EV) ⟨49, 0, 61, 77⟩ [topFrame ⟨0, 0, 0, 0⟩]) =
    some (.next, ⟨tg7 w.params, 278, {}, #[], {}, 550, os⟩, .body BB EV, ⟨62, 0, 194, 73⟩) := by
  rw [PySem.W.Fast.te10110043849684766642, PySem.W.Fast.te14364793385576792824]; kernel_rfl
theorem r_lst (w : World) (os : OsState) : segRunT treeTable PW w 11 (some (.ref 6)) 1 362 ⟨tg7 w.params, 278, {}, #[], {}, 550, os⟩ (piecesOf ((BB.drop 7).take 13) EV (.body BB EV) ⟨62, 0, 194, 73⟩ [topFrame ⟨0, 0, 0, 0⟩]) =
    some (.next, ⟨tf w.params, 350, {}, #[], {}, 652, os⟩, .body BB EV, ⟨305, 0, 319, 15⟩) := by
  rw [PySem.W.Fast.te10110043849684766642, PySem.W.Fast.te14364793385576792824]; kernel_rfl
theorem r_fin (w : World) (os : OsState) : topRun treeTable PW w 11 (some (.ref 6)) 2 (SharedT.abs ⟨tf w.params, 350, {}, #[], {}, 652, os⟩) (restOf [] EV (.body BB EV) ⟨305, 0, 319, 15⟩ [topFrame ⟨0, 0, 0, 0⟩]) =
    some ⟨hf w.params, #[], {}, 652, os⟩ := by kernel_rfl
theorem r_bb : (((BB.drop 0).take 2) ++ (((BB.drop 2).take 2) ++ (((BB.drop 4).take 1) ++ (((BB.drop 5).take 1) ++ (((BB.drop 6).take 1) ++ (((BB.drop 7).take 13) ++ [])))))) = BB := by kernel_rfl
theorem r_all (w : World) (os : OsState) : topRun treeTable PW w 11 (some (.ref 6)) (12 + (1 + (238 + (223 + (450 + (259 + (780 + (362 + 2)))))))) ⟨boot_heap w.params, #[], boot_drawn, boot_toks, os⟩ (topStub PW) =
    some ⟨hf w.params, #[], {}, 652, os⟩ :=
  go_top (r_pre w os) (piece_block (r_block w os) (by
    have h := (piece_app (segRun_of (r_g2 w os)) (piece_app (segRun_of (r_g4 w os)) (piece_app (segRun_of (r_g5 w os)) (piece_app (segRun_of (r_g6 w os)) (piece_app (segRun_of (r_g7 w os)) (piece_app (segRun_of (r_lst w os)) (r_fin w os)))))))
    rw [r_bb] at h
    exact h))
noncomputable def qv : Program := view PW [1, 2, 4, 5, 6, 7, 9, 10, 11, 12, 13, 14, 15, 16, 17, 18, 19]
noncomputable def dL : DefRec := ⟨.ofString "law", fA s19, fB s19, fS s19, ⟨305, 0, 319, 15⟩⟩
abbrev NN : Nat := 4738
theorem h_open (w : World) : (fencedOpening treeTable PW w NN).map (fun s => (s.heap, s.gens, s.drawn, s.toks)) = some (boot_heap w.params, #[], boot_drawn, boot_toks) :=
  boot_open (p := PW) (N := NN) (by kernel_rfl) (by decide +kernel) (fun s => by kernel_rfl) w
theorem h_size (w : World) : ((boot_heap w.params).isNs mainGlobals && (#[] : Array GenState).size == 0, (boot_heap w.params).objs.size, (boot_heap w.params).nsMap mainGlobals (Str.ofString "__annotations__")) = (true, 11, some (.ref 6)) := by kernel_rfl
noncomputable def HK : Hook := kHook KF KA (fun P => by kernel_rfl)
noncomputable def RW : RowW := PySem.Challenge.rw_np0195_01.row.toRowW
noncomputable def XT (s : Shared) : Bool := xlAt qv [] s && recOk RW.records s
noncomputable def SF (w : World) (os : OsState) : Shared := ⟨hf w.params, #[], {}, 652, os⟩
theorem k_1 (w : World) (os : OsState) : (staticsOk (importedModules PW.main.body) (boot_heap w.params) (hf w.params) && namesBound PW (hf w.params) && gensDone (SF w os) && laidKept (boot_heap w.params) (hf w.params)) = true := by
  rw [PySem.W.Fast.te5923862056798008813]; kernel_rfl
theorem k_2 (w : World) (os : OsState) : openSeen qv [] (importedModules PW.main.body) XT true (SF w os) = openGood qv [] := by
  rw [PySem.W.Fast.te4187177175401517315, PySem.W.Fast.te5923862056798008813]; kernel_rfl
theorem k_3 (w : World) (os : OsState) : HK.obs (SF w os) = HK.val w := by kernel_rfl
theorem left : LeftO PW qv [] XT HK.obs HK.val NN := 
  LeftO.of_pieces h_open h_size r_all (by decide +kernel) fun w => funext fun os => looks_pair (k_1 w os) (looks_pair (k_2 w os) (k_3 w os))
theorem s_a : namesResolve PW = true := by
  rw [PySem.W.Fast.te8377067652309620493]; kernel_rfl
theorem s_b : noRoadLSs { strict := !(importedModules PW.main.body).all cThrough.contains, foot := none, bare := (["vars", "dir", "locals"] : List Str).filter (readsOut PW PW.main.body) } PW.main.body = true := by
  rw [PySem.W.Fast.te8326940854005059898]; kernel_rfl
theorem s_c : (namesMeet PW PW.main.body fun _ n => attrL n) = true := by
  rw [PySem.W.Fast.te17119622794617984870]; kernel_rfl
theorem said : PySem.Challenge.rw_np0195_01.wellSaid = true := by
  delta OpenLaw.wellSaid
  delta OpenRow.wellSaid
  delta OpenRow.partSaid
  delta looksOpen
  repeat' (with_reducible refine look_both ?_ ?_)
  rotate_left 2
  exact s_a
  rotate_left 1
  exact s_b
  exact s_c
  all_goals kernel_rfl
theorem hd (walk : WalkO qv [] (XL qv []) HK.says RW dL [] fun f vs => PySem.call f vs) : PySem.Challenge.rw_np0195_01.Holds := by
  refine holds_law said fun s0 => ?_
  refine holds_open (r := PySem.Challenge.rw_np0195_01.row) (q := qv) (loose := []) (Xt := XT) (XP := XL qv []) (Yf := HK.obs) (Ya := HK.val) (YP := HK.says) (N := NN) (d := dL) (kwd := []) left (Hook.of HK) (Hook.keeps HK) (fun s e => xl_of s (Bool.and_eq_true_iff.mp e).1) XL.keeps
    (by kernel_rfl) (by kernel_rfl) (by kernel_rfl) (fun s e => recFacts_of (Bool.and_eq_true_iff.mp e).2) (by kernel_rfl) s0 (by kernel_rfl) ⟨rfl, rfl, rfl, rfl, rfl, by decide +kernel⟩ ?_ walk
  w_witness2
end Mine
end

section
open PySem PySem.W PyProof.Rows PySem.Calls
namespace Mine
/-- everything of h but S stands in h' -/
def Kept (S : List Addr) (h h' : Heap) : Prop := ∀ b o, h.get? b = some o → b ∉ S → h'.get? b = some o
theorem Kept.refl (S : List Addr) (h : Heap) : Kept S h h := fun _ _ e _ => e
theorem Kept.trans {S : List Addr} {h h' h'' : Heap} (a : Kept S h h') (b : Kept S h' h'') : Kept S h h'' :=
  fun x o e n => b x o (a x o e n) n
theorem Kept.mono {S S' : List Addr} {h h' : Heap} (a : Kept S h h') (hs : ∀ x ∈ S, x ∈ S') : Kept S' h h' :=
  fun x o e n => a x o e (fun q => n (hs x q))

section
variable {prog : Program} {w : World} {base : Heap} {s : Shared} {A : Around} {K : Frag}

theorem call_fn {R : Result → Shared → Prop} {name qual : Str} {params : Arguments} {body : List Stmt} {scope : Scope} {dV kV doc pm cdv ct oc : Value} {an od : Option Addr} {osl : Array (Option Value)} {f : Addr} {args : Args} {binds : List (Str × Value)}
    (X : K.In base) (lim : base.NoLimit) (kp : ∀ b o, base.get? b = some o → s.heap.get? b = some o) 
    (hge : base.objs.size ≤ s.heap.objs.size)
    (ho : K.lookup f = some ⟨oc, od, .func (fnOf name qual params body scope dV kV doc pm an cdv ct), osl⟩) (hcd : codeIn K cdv qual = true) (hroom : A.depth < recursionLimit)
    (hbind : BindsTo s (fnOf name qual params body scope dV kV doc pm an cdv ct) args binds) (hloc : ∀ y ∈ binds, scope.names.lookup y.1 = some .local)
    (h : ∀ h₁, Fr base s.heap.objs.size h₁ (fun y => binds.reverse.lookup y) → Kept [] s.heap h₁ →
      wpAny (model prog w) (A.deeper (envOf qual scope s.heap.objs.size f cdv)) (execs body (envOf qual scope s.heap.objs.size f cdv))
        (fun fl s' => R (.ok (.ret (match fl with | .ret v => v | _ => .none))) s')
        (fun e s' => wpAny (model prog w) (A.deeper (envOf qual scope s.heap.objs.size f cdv)) (leaving (envOf qual scope s.heap.objs.size f cdv) e) (fun _ s'' => R (.error e) s'') (fun e' s'' => R (.error e') s'') s')
        { s with heap := h₁, toks := s.toks + binds.length })
    (hco : scope.isCoroutine = false := by rfl) (hgen : scope.isGenerator = false := by rfl) (hk : scope.kind = .function := by rfl)
    (hcell : ∀ x ∈ scope.names, x.2 ≠ .cell := by decide) : codeAny (model prog w) A (.call (.ref f) args) R s := by
  refine codeAny_call_def (fd := fnOf name qual params body scope dV kV doc pm an cdv ct) (body := body) (binds := binds) hroom (kp _ _ (X _ _ ho)) rfl (lim.keeps kp) (codeRec_of (K := K) (fun a o e => kp _ _ (X a o e)) hcd) rfl hbind hcell hloc (fun h₁ hns hk₁ => ?_) hco hgen hk
  exact h h₁ ⟨hns, fun b o e => hk₁ b o (kp b o e), hge⟩ (fun b o e _ => hk₁ b o e)
end
end Mine
end

section
open PySem PySem.W PyProof.Rows PySem.Calls
namespace Mine
/-! instances by their attributes -/
def setA (nm : Str) (v : Value) : List (Str × Value) → List (Str × Value)
  | [] => [(nm, v)]
  | (k, u) :: r => if k = nm then (k, v) :: r else (k, u) :: setA nm v r

/-- the object x of class C with dict d holds the attributes l -/
def Inst (h : Heap) (x C d : Addr) (l : List (Str × Value)) : Prop :=
  ∃ es n, h.get? x = some (instObj C d) ∧ h.get? d = some (dictOf es n) ∧ es.length ≤ l.length ∧ ∀ nm, getL nm es = some (l.lookup nm)

theorem Inst.at_ {h : Heap} {x C d : Addr} {l : List (Str × Value)} (I : Inst h x C d l) : ∃ es n, InstAt h x (instObj C d) C (some (dictOf es n)) ∧ es.length ≤ l.length ∧ (∀ nm, getL nm es = some (l.lookup nm)) ∧ h.get? d = some (dictOf es n) := by
  obtain ⟨es, n, h1, h2, h3, h4⟩ := I
  exact ⟨es, n, ⟨h1, rfl, rfl, h2⟩, h3, h4, h2⟩

theorem Inst.kept {S : List Addr} {h h' : Heap} {x C d : Addr} {l : List (Str × Value)} (I : Inst h x C d l) (k : Kept S h h') (hx : x ∉ S) (hd : d ∉ S) : Inst h' x C d l := by
  obtain ⟨es, n, h1, h2, h3, h4⟩ := I
  exact ⟨es, n, k _ _ h1 hx, k _ _ h2 hd, h3, h4⟩

theorem putL_len (nm : Str) (hsh : Int) (key v : Value) : ∀ es : List DictEntry, (putL nm hsh key v es).length ≤ es.length + 1
  | [] => by simp [putL]
  | e :: r => by
    unfold putL
    have := putL_len nm hsh key v r
    split <;> simp <;> omega

theorem putL_len_eq (nm : Str) (hsh : Int) (key v : Value) : ∀ es : List DictEntry, es.any (·.key.isStr nm) = true → (putL nm hsh key v es).length = es.length
  | [], h => by simp at h
  | e :: r, h => by
    unfold putL
    cases q : e.key.isStr nm with
    | true => simp
    | false =>
      rw [List.any_cons, q, Bool.false_or] at h
      simp [putL_len_eq nm hsh key v r h]

theorem find_putL (nm : Str) (hsh : Int) (t : Tok) (v : Value) (y : Str) : ∀ es : List DictEntry,
    ((putL nm hsh (.str nm t) v es).find? (·.key.isStr y)).map (·.val) = if y = nm then some v else (es.find? (·.key.isStr y)).map (·.val)
  | [] => by
    by_cases h : y = nm
    · subst h; simp [putL, Value.isStr]
    · simp [putL, Value.isStr, h, Ne.symm h]
  | e :: r => by
    have ih := find_putL nm hsh t v y r
    unfold putL
    cases q : e.key.isStr nm with
    | true =>
      simp only [if_true, List.find?_cons]
      cases p : e.key.isStr y with
      | true => rw [Value.isStr_inj _ _ _ p q]; simp
      | false =>
        have : y ≠ nm := fun z => by rw [z, q] at p; cases p
        simp [this]
    | false =>
      simp only [Bool.false_eq_true, if_false, List.find?_cons]
      cases p : e.key.isStr y with
      | true =>
        have : y ≠ nm := fun z => by rw [z, q] at p; cases p
        simp [this]
      | false => exact ih

theorem any_putL (nm : Str) (hsh : Int) (t : Tok) (v : Value) : ∀ es : List DictEntry, (putL nm hsh (.str nm t) v es).any (·.refKey) = es.any (·.refKey)
  | [] => by rfl
  | e :: r => by
    unfold putL
    split
    · rfl
    · rw [List.any_cons, List.any_cons, any_putL nm hsh t v r]

theorem getL_iff {nm : Str} {es : List DictEntry} : getL nm es = match (es.find? (·.key.isStr nm)).map (·.val) with | some v => some (some v) | none => if es.any (·.refKey) then none else some none := by
  unfold getL
  cases es.find? (·.key.isStr nm) <;> rfl

theorem getL_putL {nm : Str} {hsh : Int} {t : Tok} {v : Value} {es : List DictEntry} {l : List (Str × Value)} (h : ∀ y, getL y es = some (l.lookup y)) (y : Str) :
    getL y (putL nm hsh (.str nm t) v es) = some (if y = nm then some v else l.lookup y) := by
  have := h y
  rw [getL_iff] at this
  rw [getL_iff, find_putL, any_putL]
  by_cases q : y = nm
  · simp [q]
  · simp only [q, if_false]; exact this

theorem lookup_setA (nm : Str) (v : Value) (y : Str) : ∀ l : List (Str × Value), (setA nm v l).lookup y = if y = nm then some v else l.lookup y
  | [] => by
    by_cases h : y = nm
    · subst h; simp [setA]
    · have : (y == nm) = false := by simp [h]
      simp [setA, List.lookup, this, h]
  | (k, u) :: r => by
    have ih := lookup_setA nm v y r
    unfold setA
    by_cases q : k = nm
    · simp only [q, if_true, List.lookup_cons]
      by_cases h : y = nm
      · subst h; simp
      · have : (y == nm) = false := by simp [h]
        simp [this, h]
    · simp only [q, if_false, List.lookup_cons]
      by_cases h : y = k
      · subst h; simp [q]
      · have : (y == k) = false := by simp [h]
        simp only [this]; exact ih

theorem putL_le_setA {nm : Str} {hsh : Int} {t : Tok} {v : Value} {es : List DictEntry} {l : List (Str × Value)} (h : ∀ y, getL y es = some (l.lookup y)) (hl : es.length ≤ l.length) :
    (putL nm hsh (.str nm t) v es).length ≤ (setA nm v l).length := by
  have len : ∀ l : List (Str × Value), l.length ≤ (setA nm v l).length ∧ ((l.lookup nm).isNone = true → (setA nm v l).length = l.length + 1) := by
    intro l
    induction l with
    | nil => simp [setA]
    | cons p r ih =>
      obtain ⟨k, u⟩ := p
      unfold setA
      by_cases q : k = nm
      · subst q; simp
      · have : (nm == k) = false := by simp [Ne.symm q]
        simp only [q, if_false, List.length_cons, List.lookup_cons, this]
        exact ⟨by omega, fun z => by have := ih.2 z; omega⟩
  cases q : es.any (·.key.isStr nm) with
  | true => rw [putL_len_eq _ _ _ _ _ q]; exact Nat.le_trans hl (len l).1
  | false =>
    have z := h nm
    rw [getL_iff] at z
    have nf : es.find? (·.key.isStr nm) = none := by
      rw [List.find?_eq_none]; intro x hx; rw [List.any_eq_false] at q; exact q x hx
    rw [nf] at z
    have : l.lookup nm = none := by
      simp only [Option.map_none] at z
      split at z
      · cases z
      · exact (Option.some.inj z).symm
    have := (len l).2 (by rw [this]; rfl)
    have := putL_len nm hsh (.str nm t) v es
    omega

theorem setA_len (nm : Str) (v : Value) : ∀ l : List (Str × Value), (setA nm v l).length ≤ l.length + 1
  | [] => by simp [setA]
  | (k, u) :: r => by
    have := setA_len nm v r
    unfold setA
    split
    · simp
    · simp only [List.length_cons]; omega

section
variable {prog : Program} {w : World} {A : Around} {E : Value → Shared → Prop} {s : Shared} {K : Frag} {x C d : Addr} {name : Str} {v : Value} {l : List (Str × Value)}

theorem get_attr {expr : Bool} {Q : Value → Shared → Prop} {attr : Option Value} (X : K.In s.heap) (I : Inst s.heap x C d l) (hl : l.lookup name = some v) (hg : plainGet K C name = true) (hh : hasDictIn K C = true)
    (ha : findIn K (.ref C) name = some attr) (hn : noGet K attr = true) (hv : handedIn v = true) (h : Q v { s with toks := s.toks + 1 }) :
    wpAny (model prog w) A (getAttr (.ref x) name expr) Q E s := by
  obtain ⟨es, n, I', _, hf, _⟩ := I.at_
  exact get_value X I' (plainGet_of hg).1 (findObj_own hh ha hn (by rw [lookIn_dict, hf, hl])) hv h

theorem get_meth {pl : Sem Bool} {Q : Value × List Value → Shared → Prop} {f : Addr} (X : K.In s.heap) (I : Inst s.heap x C d l) (hl : l.lookup name = none) (hg : plainGet K C name = true)
    (hf : findIn K (.ref C) name = some (some (.ref f))) (ht : isFn K (.ref f) = true) (h : Q (.ref f, [.ref x]) s) : wpAny (model prog w) A (getMethod (.ref x) name pl) Q E s := by
  obtain ⟨es, n, I', _, hf', _⟩ := I.at_
  exact method_fn X I' (plainGet_of hg).1 (plainGet_of hg).2 hf (beq_iff_eq.mp ht) (by show (lookIn name (dictOf es n)).map _ = _; rw [lookIn_dict, hf', hl]; rfl) h

theorem set_attr {Q : Unit → Shared → Prop} (X : K.In s.heap) (I : Inst s.heap x C d l) (hxd : x ≠ d)
    (hs : findIn K (.ref C) "__setattr__" = some (some (.builtin "object.__setattr__"))) (hp : plainOver K C = true) (ht : takerIn K C name = some none) (hh : hasDictIn K C = true)
    (hz : l.length ≤ 900)
    (h : ∀ h', Inst h' x C d (setA name v l) → Heap.SameBut d s.heap h' → Q () { s with heap := h', toks := s.toks + 2 }) :
    wpAny (model prog w) A (setAttr (.ref x) name v) Q E s := by
  obtain ⟨es, n, I', hle, hf, D⟩ := I.at_
  refine set_plain X I' hs (osa_open (s := { s with toks := s.toks + 1 }) X I' hp ht fun b => ?_)
  obtain ⟨cd, hc, hd'⟩ := any_some hh
  have hx : s.heap.get? x = some (instObj C d) := I'.at_
  refine wpAny_bind (wpAny_pure (wpAny_bind (wpAny_bind (wpAny_loadPart hx (wpAny_bind ((looks_clsIn X hc).at ?_))))))
  rw [hd']
  refine wpAny_pure (a := some d) (wpAny_bind (wpAny_pure (wpAny_bind ?_)))
  unfold nsSet
  refine wpAny_bind (wpAny_bind (wpAny_askSetting (wpAny_pure (wpAny_bind (wpAny_mkText (wpAny_bind (wpAny_loadPart D ?_)))))))
  dsimp only
  have c : (!es.toArray.any (·.key.isStr name) && es.toArray.any (·.refKey)) = false := by
    rw [← Array.any_toList, ← Array.any_toList]
    have z := hf name
    rw [getL_iff] at z
    cases q : es.any (·.key.isStr name) with
    | true => rfl
    | false =>
      have nf : es.find? (·.key.isStr name) = none := by
        rw [List.find?_eq_none]; intro x hx; rw [List.any_eq_false] at q; exact q x hx
      rw [nf] at z
      simp only [Option.map_none] at z
      split at z
      · cases z
      · rename_i y; rw [Bool.not_eq_true] at y; rw [y]; rfl
  rw [aRefKeyMayBeTheName_at, c]
  have D' : (s.heap.update d (Obj.putName name (PyData.keyHash w.params name) (.str name (s.toks + 1)) v)).get? d = some (dictOf (putL name (PyData.keyHash w.params name) (.str name (s.toks + 1)) v es) (putN name es n)) := by
    rw [← putName_dict]
    exact Heap.get?_update_self _ D (by rw [putName_dict]; rfl)
  refine wpAny_updatePart D ?_
  have hlen := putL_le_setA (nm := name) (hsh := PyData.keyHash w.params name) (t := s.toks + 1) (v := v) hf hle
  have hsl : (setA name v l).length ≤ l.length + 1 := by
    exact setA_len name v l
  refine wpAny_bind (wpAny_lookBehind D' (pastItsLine_dict (by rw [List.size_toArray, sizeLine_eq]; omega)) ?_)
  refine wpAny_pure (h _ ⟨_, _, ?_, D', hlen, fun y => by rw [getL_putL hf, lookup_setA]⟩ (Heap.SameBut.update ..))
  exact (Heap.get?_update_ne _ _ _ _ hxd).trans hx
end
end Mine
end

section
open PySem PySem.W PyProof.Rows PySem.Calls
namespace Mine
example : PySem.Challenge.rw_np0195_01 = PySem.Challenge.rw_np0195_01 ∧ KF = KF := by
  k_fill
  exact ⟨rfl, rfl⟩

/-- what the text's top left, at fixed addresses below 350 -/
structure Base (w : World) (base : Heap) : Prop where
  X : (KF w.params).In base
  T : ∃ p loose mg mb, TopRead p loose mg mb base
  size : base.objs.size = 350

/-- room for n more frames -/
structure Room (A : Around) (n : Nat) : Prop where
  depth : A.depth + n < recursionLimit
  units : A.units + 10 * n + 10 < cLine
  hand : A.handled = none

theorem Room.deeper {A : Around} {n m : Nat} {env : Env} (r : Room A n) (h : m + 1 ≤ n := by decide) : Room (A.deeper env) m := by
  obtain ⟨a, b, c⟩ := r
  refine ⟨?_, ?_, c⟩
  · show A.depth + 1 + m < _; omega
  · show A.units + 3 + 10 * m + 10 < _; omega
theorem Room.lt {A : Around} {n : Nat} (r : Room A n) : A.depth < recursionLimit := by have := r.depth; omega
theorem Room.u {A : Around} {n : Nat} (r : Room A n) : A.units < cLine := by have := r.units; omega

abbrev In0 (base h : Heap) : Prop := ∀ b o, base.get? b = some o → h.get? b = some o

theorem Base.lim {w : World} {base : Heap} (B : Base w base) : base.NoLimit := let ⟨_, _, _, _, T⟩ := B.T; T.nolimit
theorem Base.In {w : World} {base h : Heap} (B : Base w base) (k : In0 base h) : (KF w.params).In h := Frag.In.keeps B.X k
theorem Base.ge {w : World} {base h : Heap} (B : Base w base) (k : In0 base h) : base.objs.size ≤ h.objs.size := by
  have e : ∃ o, (KF w.params).lookup 349 = some o := ⟨_, by k_is⟩
  obtain ⟨o, e⟩ := e
  have := Heap.lt_size (k _ _ (B.X _ _ e))
  rw [B.size]; exact this
theorem Base.none {w : World} {base : Heap} (B : Base w base) {a : Addr} (h : 350 ≤ a) : base.get? a = none := by
  cases e : base.get? a with
  | none => rfl
  | some o => have := Heap.lt_size e; rw [B.size] at this; exact absurd this (Nat.not_lt.mpr h)

theorem Kept.in0 {base h h' : Heap} {S : List Addr} {w : World} (B : Base w base) (k0 : In0 base h) (k : Kept S h h') (hS : ∀ a ∈ S, 350 ≤ a) : In0 base h' := fun b o e => by
  refine k b o (k0 b o e) fun m => ?_
  have := B.none (hS b m)
  rw [e] at this; cases this

theorem Kept.of_sb {a : Addr} {h h' : Heap} (x : Heap.SameBut a h h') : Kept [a] h h' := fun b o e n => by
  rw [x.2 b (by simpa using n)]; exact e
theorem Kept.push (h : Heap) (o : Obj) : Kept [] h (h.push o) := fun _ _ e _ => Heap.get?_push_of_some _ e
theorem Kept.nil {S : List Addr} {h h' : Heap} (k : Kept [] h h') : Kept S h h' := k.mono (by simp)
theorem Kept.of_all {h h' : Heap} (k : ∀ b o, h.get? b = some o → h'.get? b = some o) : Kept [] h h' := fun b o e _ => k b o e
theorem Kept.all {h h' : Heap} (k : Kept [] h h') : ∀ b o, h.get? b = some o → h'.get? b = some o := fun b o e => k b o e (by simp)
/-- what is fresh may change -/
theorem Kept.drop {S T : List Addr} {h h' : Heap} (k : Kept (S ++ T) h h') (hT : ∀ a ∈ T, h.get? a = none) : Kept S h h' := fun b o e n => k b o e fun m => by
  rcases List.mem_append.mp m with m | m
  · exact n m
  · rw [hT b m] at e; cases e

theorem fk {w : World} {base h h' : Heap} {L : Addr} {m : Str → Option Value} {S : List Addr} (B : Base w base) (F : Fr base L h m) (k : Kept S h h') (hL : L ∉ S) (hS : ∀ a ∈ S, 350 ≤ a) : Fr base L h' m := by
  obtain ⟨⟨o, es, ep, e, r⟩, kp, ab⟩ := F
  exact ⟨⟨o, es, ep, k _ _ e hL, r⟩, k.in0 B kp hS, ab⟩

theorem fk0 {base h h' : Heap} {L : Addr} {m : Str → Option Value} (F : Fr base L h m) (k : Kept [] h h') : Fr base L h' m := by
  obtain ⟨⟨o, es, ep, e, r⟩, kp, ab⟩ := F
  exact ⟨⟨o, es, ep, k _ _ e (by simp), r⟩, fun b o e => k.all _ _ (kp b o e), ab⟩

/-! plain lists -/
def PL (h : Heap) (a : Addr) (vs : List Value) : Prop := ∃ n, h.get? a = some { cls := .type "list", data := .seq vs.toArray n }
theorem PL.kept {S : List Addr} {h h' : Heap} {a : Addr} {vs : List Value} (x : PL h a vs) (k : Kept S h h') (ha : a ∉ S) : PL h' a vs := let ⟨n, e⟩ := x; ⟨n, k _ _ e ha⟩
theorem PL.isList {h : Heap} {a : Addr} {vs : List Value} (x : PL h a vs) : h.IsList a vs.toArray := let ⟨n, e⟩ := x; ⟨_, e, rfl, n, rfl⟩
theorem PL.lt {h : Heap} {a : Addr} {vs : List Value} (x : PL h a vs) : a < h.objs.size := let ⟨_, e⟩ := x; Heap.lt_size e
theorem PL.inj {h : Heap} {a : Addr} {vs us : List Value} (x : PL h a vs) (y : PL h a us) : vs = us := by
  obtain ⟨n, e⟩ := x; obtain ⟨m, f⟩ := y
  rw [e] at f; injection f with f; injection f with _ _ f; injection f with f; injection f

/-- tuples -/
def PT (h : Heap) (a : Addr) (vs : List Value) : Prop := ∃ n, h.get? a = some { cls := .type "tuple", data := .seq vs.toArray n }
theorem PT.kept {S : List Addr} {h h' : Heap} {a : Addr} {vs : List Value} (x : PT h a vs) (k : Kept S h h') (ha : a ∉ S) : PT h' a vs := let ⟨n, e⟩ := x; ⟨n, k _ _ e ha⟩
theorem PT.lt {h : Heap} {a : Addr} {vs : List Value} (x : PT h a vs) : a < h.objs.size := let ⟨_, e⟩ := x; Heap.lt_size e

section
variable {prog : Program} {w : World} {base : Heap} {s : Shared} {A : Around}

theorem callf {R : Result → Shared → Prop} {name qual : Str} {params : Arguments} {body : List Stmt} {scope : Scope} {dV kV doc pm cdv ct oc : Value} {an od : Option Addr} {osl : Array (Option Value)} {f : Addr} {args : Args} {n : Nat}
    (binds : List (Str × Value)) (B : Base w base) (kp : In0 base s.heap) (room : Room A n)
    (ho : (KF w.params).lookup f = some ⟨oc, od, .func (fnOf name qual params body scope dV kV doc pm an cdv ct), osl⟩) (hcd : codeIn (KF w.params) cdv qual = true) 
    (hbind : BindsTo s (fnOf name qual params body scope dV kV doc pm an cdv ct) args binds) (hloc : ∀ y ∈ binds, scope.names.lookup y.1 = some .local)
    (h : ∀ h₁, Fr base s.heap.objs.size h₁ (fun y => binds.reverse.lookup y) → Kept [] s.heap h₁ →
      wpAny (model prog w) (A.deeper (envOf qual scope s.heap.objs.size f cdv)) (execs body (envOf qual scope s.heap.objs.size f cdv))
        (fun fl s' => R (.ok (.ret (match fl with | .ret v => v | _ => .none))) s')
        (fun e s' => wpAny (model prog w) (A.deeper (envOf qual scope s.heap.objs.size f cdv)) (leaving (envOf qual scope s.heap.objs.size f cdv) e) (fun _ s'' => R (.error e) s'') (fun e' s'' => R (.error e') s'') s')
        { s with heap := h₁, toks := s.toks + binds.length })
    (hco : scope.isCoroutine = false := by rfl) (hgen : scope.isGenerator = false := by rfl) (hk : scope.kind = .function := by rfl)
    (hcell : ∀ x ∈ scope.names, x.2 ≠ .cell := by decide) : codeAny (model prog w) A (.call (.ref f) args) R s :=
  call_fn (binds := binds) B.X B.lim kp (B.ge kp) ho hcd room.lt hbind hloc h hco hgen hk hcell
end
end Mine
end

section
open PySem PySem.W PyProof.Rows PySem.Calls
namespace Mine
section
variable {prog : Program} {w : World} {s : Shared} {A : Around} {E : Value → Shared → Prop} {env : Env}

/-- a method of a built-in type's object, one argument -/
theorem bcall1 {o e : Expr} {name : Str} {apos pos : Pos} {T id : String} {Q : Value → Shared → Prop}
    (pa : PlainAttrs T) (slot : Slot T name id) (hty : typeOf (.builtin id) = pure (.type "method_descriptor"))
    (h : wpAny (model prog w) A (eval o env) (fun ov s₁ => s₁.TypeIs ov T ∧ (∀ a, ov = .ref a → ∃ ob, s₁.heap.get? a = some ob ∧ ob.dict = none) ∧
      wpAny (model prog w) A (callWith pos (.builtin id) [ov] [(false, eval e env)] []) Q E s₁) E s)
    (hbase : attributeBase o name env (eval o env) = eval o env := by rfl)
    (hst : backTo pos (starEach [e] env) = [(false, eval e env)] := by rfl)
    (hline : (apos.endLine == pos.line) = true := by rfl) :
    wpAny (model prog w) A (eval (.Call (.Attribute o name apos) [e] [] pos) env) Q E s := by
  refine wpAny_Call_method hbase (by rw [hst]; rfl) hline pa slot hty (wpAny_mono h (fun ov s₁ h₁ => ?_) fun _ _ x => x)
  rw [hst]; exact h₁

theorem bcall2 {o e f : Expr} {name : Str} {apos pos : Pos} {T id : String} {Q : Value → Shared → Prop}
    (pa : PlainAttrs T) (slot : Slot T name id) (hty : typeOf (.builtin id) = pure (.type "method_descriptor"))
    (h : wpAny (model prog w) A (eval o env) (fun ov s₁ => s₁.TypeIs ov T ∧ (∀ a, ov = .ref a → ∃ ob, s₁.heap.get? a = some ob ∧ ob.dict = none) ∧
      wpAny (model prog w) A (callWith pos (.builtin id) [ov] [(false, eval e env), (false, eval f env)] []) Q E s₁) E s)
    (hbase : attributeBase o name env (eval o env) = eval o env := by rfl)
    (hst : backTo pos (starEach [e, f] env) = [(false, eval e env), (false, eval f env)] := by rfl)
    (hline : (apos.endLine == pos.line) = true := by rfl) :
    wpAny (model prog w) A (eval (.Call (.Attribute o name apos) [e, f] [] pos) env) Q E s := by
  refine wpAny_Call_method hbase (by rw [hst]; rfl) hline pa slot hty (wpAny_mono h (fun ov s₁ h₁ => ?_) fun _ _ x => x)
  rw [hst]; exact h₁

theorem PL.type {l : Addr} {vs : List Value} (x : PL s.heap l vs) : s.TypeIs (.ref l) "list" := x.isList.typeIs
theorem PL.nodict {h : Heap} {l : Addr} {vs : List Value} (x : PL h l vs) : ∀ a, Value.ref l = .ref a → ∃ ob, h.get? a = some ob ∧ ob.dict = none := by
  obtain ⟨n, e⟩ := x
  intro a q; cases q; exact ⟨_, e, rfl⟩

theorem seq_upd {h : Heap} {l : Addr} {vs us : List Value} {n : Nat} (f : Array Value → Array Value) (e : h.get? l = some { cls := .type "list", data := .seq vs.toArray n }) (q : f vs.toArray = us.toArray) :
    PL (h.update l (Obj.mapSeq f)) l us ∧ Kept [l] h (h.update l (Obj.mapSeq f)) := by
  refine ⟨?_, Kept.of_sb (Heap.SameBut.update ..)⟩
  refine ⟨if us.toArray.size == vs.toArray.size then n else n + 1, ?_⟩
  refine Heap.get?_update_self _ e ?_ |>.trans ?_
  · rfl
  · show some (Obj.mapSeq f _) = _
    unfold Obj.mapSeq
    simp only [q]

/-- l.append(e) -/
theorem e_append {o e : Expr} {apos pos : Pos} {Q : Value → Shared → Prop}
    (h : wpAny (model prog w) A (eval o env) (fun ov s₁ => ∃ l, ov = .ref l ∧ (∃ us, PL s₁.heap l us) ∧
      wpAny (model prog w) A (eval e env) (fun v s₂ => ∃ vs, PL s₂.heap l vs ∧ vs.length ≤ 100000 ∧ ∀ h', PL h' l (vs ++ [v]) → Kept [l] s₂.heap h' → Q .none { s₂ with heap := h' }) E s₁) E s)
    (hbase : attributeBase o "append" env (eval o env) = eval o env := by rfl)
    (hst : backTo pos (starEach [e] env) = [(false, eval e env)] := by rfl)
    (hline : (apos.endLine == pos.line) = true := by rfl) :
    wpAny (model prog w) A (eval (.Call (.Attribute o "append" apos) [e] [] pos) env) Q E s := by
  refine bcall1 F.plainAttrs_list F.slot_list_append F.type_list_append (wpAny_mono h (fun ov s₁ h₁ => ?_) fun _ _ x => x) hbase hst hline
  obtain ⟨l, rfl, ⟨us, p⟩, h₁⟩ := h₁
  refine ⟨p.type, p.nodict, P.append_list (wpAny_mono h₁ (fun v s₂ h₂ => ?_) fun _ _ x => x)⟩
  obtain ⟨vs, p₂, hl, k⟩ := h₂
  obtain ⟨n, e₂⟩ := p₂
  have u := seq_upd (us := vs ++ [v]) (fun xs => xs.push v) e₂ (by simp)
  exact ⟨vs.toArray, n, by rw [sizeLine_eq]; simp; omega, e₂, k _ u.1 u.2⟩

/-- l.remove(e), the items compared apart from the heap -/
theorem e_remove {o e : Expr} {apos pos : Pos} {Q : Value → Shared → Prop}
    (h : wpAny (model prog w) A (eval o env) (fun ov s₁ => ∃ l, ov = .ref l ∧ (∃ us, PL s₁.heap l us) ∧
      wpAny (model prog w) A (eval e env) (fun v s₂ => ∃ pre x post, PL s₂.heap l (pre ++ x :: post) ∧ (pre ++ x :: post).length ≤ 100000 ∧
        (∃ q : Value → Bool, (∀ y ∈ pre ++ x :: post, MeetsSeq.EqGives y v (q y)) ∧ q x = true ∧ ∀ y ∈ pre, q y = false) ∧ ∀ h', PL h' l (pre ++ post) → Kept [l] s₂.heap h' → Q .none { s₂ with heap := h' }) E s₁) E s)
    (hbase : attributeBase o "remove" env (eval o env) = eval o env := by rfl)
    (hst : backTo pos (starEach [e] env) = [(false, eval e env)] := by rfl)
    (hline : (apos.endLine == pos.line) = true := by rfl) :
    wpAny (model prog w) A (eval (.Call (.Attribute o "remove" apos) [e] [] pos) env) Q E s := by
  refine bcall1 F.plainAttrs_list F.slot_list_remove F.type_list_remove (wpAny_mono h (fun ov s₁ h₁ => ?_) fun _ _ x => x) hbase hst hline
  obtain ⟨l, rfl, ⟨us, p⟩, h₁⟩ := h₁
  refine ⟨p.type, p.nodict, P.remove_list (wpAny_mono h₁ (fun v s₂ h₂ => ?_) fun _ _ x => x)⟩
  obtain ⟨pre, x, post, p₂, hl, ⟨q, q1, q2, q3⟩, k⟩ := h₂
  obtain ⟨n, e₂⟩ := p₂
  have u := seq_upd (us := pre ++ post) (fun xs => xs.eraseIdxIfInBounds pre.length) e₂ (by
    have hj : pre.length < (pre ++ x :: post).toArray.size := by simp
    rw [Array.eraseIdxIfInBounds, dif_pos hj]
    simp [List.eraseIdx_append_of_length_le])
  refine ⟨(pre ++ x :: post).toArray, n, q, pre.length, by simp, by rw [sizeLine_eq]; simp at hl ⊢; omega, e₂, fun y hy => q1 y (by simpa using hy), by simpa using q2, fun m hm hm2 => ?_, k _ u.1 u.2⟩
  refine q3 _ ?_
  simp [List.getElem_append_left hm2]

/-! dicts by ints -/
abbrev DI (prog : Program) (w : World) (h : Heap) (d : Addr) (kvs : List (Int × Value)) : Prop := h.DictOf (intKind prog w) d kvs
theorem DI.kept {S : List Addr} {h h' : Heap} {d : Addr} {kvs : List (Int × Value)} (x : DI prog w h d kvs) (k : Kept S h h') (ha : d ∉ S) : DI prog w h' d kvs := by
  obtain ⟨o, es, ep, e, r⟩ := x; exact ⟨o, es, ep, k _ _ e ha, r⟩
theorem DI.lt {h : Heap} {d : Addr} {kvs : List (Int × Value)} (x : DI prog w h d kvs) : d < h.objs.size := let ⟨_, _, _, e, _⟩ := x; Heap.lt_size e
theorem isSome_valueAt {kvs : List (Int × Value)} {k : Int} : (valueAt kvs k).isSome = kvs.any fun kv => kv.1 = k := by
  unfold valueAt
  rw [Option.isSome_map]
  induction kvs with
  | nil => rfl
  | cons a r ih => rw [List.find?_cons, List.any_cons]; cases q : decide (a.1 = k) <;> simp_all

theorem d_in {d : Addr} {kvs : List (Int × Value)} {k : Int} {t : Tok} {Q : Value → Shared → Prop} (hm : DI prog w s.heap d kvs) (hd : 350 ≤ d)
    (h : Q (.bool (kvs.any fun kv => kv.1 = k)) { s with toks := s.toks + 1 }) : wpAny (model prog w) A (compareOp .In (.int k t) (.ref d)) Q E s := by
  refine wpAny_in_of (intKind_is prog w k t) ?_ hm.mapOf ?_
  · simp only [beq_eq_false_iff_ne]; intro e; rw [e] at hd; exact absurd hd (by decide)
  · rw [isSome_valueAt]; exact h
theorem d_notin {d : Addr} {kvs : List (Int × Value)} {k : Int} {t : Tok} {Q : Value → Shared → Prop} (hm : DI prog w s.heap d kvs) (hd : 350 ≤ d)
    (h : Q (.bool (!(kvs.any fun kv => kv.1 = k))) { s with toks := s.toks + 1 }) : wpAny (model prog w) A (compareOp .NotIn (.int k t) (.ref d)) Q E s := by
  refine wpAny_notIn_of (intKind_is prog w k t) ?_ hm.mapOf ?_
  · simp only [beq_eq_false_iff_ne]; intro e; rw [e] at hd; exact absurd hd (by decide)
  · rw [isSome_valueAt]; exact h
theorem d_set {d : Addr} {kvs : List (Int × Value)} {k : Int} {t : Tok} {v : Value} {Q : Unit → Shared → Prop} (hm : DI prog w s.heap d kvs) (hl : kvs.length ≤ 100000)
    (h : ∀ h', DI prog w h' d (stored kvs k v) → Kept [d] s.heap h' → Q () { s with heap := h', toks := s.toks + 1 }) : wpAny (model prog w) A (setItem (.ref d) (.int k t) v) Q E s :=
  wpAny_setItem_pairs (intKind_is prog w k t) hm (fun h' a b => h h' a (Kept.of_sb b)) (by rw [sizeLine_eq]; omega)
theorem d_get {value slice : Expr} {d : Addr} {kvs : List (Int × Value)} {k : Int} {t : Tok} {v : Value} {Q : Value → Shared → Prop} (hm : DI prog w s.heap d kvs) (hv : valueAt kvs k = some v)
    (h : Q v { s with toks := s.toks + 1 })
    (hs : subscripted slice false (.ref d) (.int k t) = operate [.ref d, .int k t] (getItem (.ref d) (.int k t)) := by with_unfolding_all rfl) :
    wpAny (model prog w) A (subscriptTail value slice (.ref d) (.int k t)) Q E s :=
  tail_any hm.typeIs slot_dict_getitem.lookup (wpAny_getItem_of (intKind_is prog w k t) hm.mapOf hv h) hs

theorem DI.nodict {h : Heap} {d : Addr} {kvs : List (Int × Value)} (x : DI prog w h d kvs) : ∀ a, Value.ref d = .ref a → ∃ ob, h.get? a = some ob ∧ ob.dict = none := x.mapOf.noDict

/-- d.pop(e): the key is there -/
theorem e_pop1 {o e : Expr} {apos pos : Pos} {Q : Value → Shared → Prop}
    (h : wpAny (model prog w) A (eval o env) (fun ov s₁ => ∃ d, ov = .ref d ∧ (∃ us, DI prog w s₁.heap d us) ∧
      wpAny (model prog w) A (eval e env) (fun v s₂ => ∃ k t kvs x, v = .int k t ∧ DI prog w s₂.heap d kvs ∧ kvs.length ≤ 100000 ∧ valueAt kvs k = some x ∧
        ∀ h', DI prog w h' d (without kvs k) → Kept [d] s₂.heap h' → Q x { s₂ with heap := h', toks := s₂.toks + 1 }) E s₁) E s)
    (hbase : attributeBase o "pop" env (eval o env) = eval o env := by rfl)
    (hst : backTo pos (starEach [e] env) = [(false, eval e env)] := by rfl)
    (hline : (apos.endLine == pos.line) = true := by rfl) :
    wpAny (model prog w) A (eval (.Call (.Attribute o "pop" apos) [e] [] pos) env) Q E s := by
  refine bcall1 F.plainAttrs_dict F.slot_dict_pop F.type_dict_pop (wpAny_mono h (fun ov s₁ h₁ => ?_) fun _ _ x => x) hbase hst hline
  obtain ⟨d, rfl, ⟨us, p⟩, h₁⟩ := h₁
  refine ⟨p.typeIs, p.nodict, method1_meetsIn F.slot_dict_pop F.entry_dict_pop (wpAny_mono h₁ (fun v s₂ h₂ => ?_) fun _ _ x => x)⟩
  obtain ⟨k, t, kvs, x, rfl, hm, hl, hv, q⟩ := h₂
  refine ⟨hm.typeIs, F.args_dict_pop_2 _ _, _, meets_dict_pop_there (intKind prog w) d (intKind_is prog w k t) [] (.inl rfl) rfl, kvs, x, hm, by rw [sizeLine_eq]; omega, hv, fun h' a b => ?_⟩
  exact q h' a (Kept.of_sb b)

/-- d.pop(e, f) -/
theorem e_pop2 {o e f : Expr} {apos pos : Pos} {Q : Value → Shared → Prop}
    (h : wpAny (model prog w) A (eval o env) (fun ov s₁ => ∃ d, ov = .ref d ∧ 350 ≤ d ∧ (∃ us, DI prog w s₁.heap d us) ∧
      wpAny (model prog w) A (eval e env) (fun v s₂ => wpAny (model prog w) A (eval f env) (fun u s₃ => ∃ k t kvs, v = .int k t ∧ DI prog w s₃.heap d kvs ∧ kvs.length ≤ 100000 ∧
        ∀ h', DI prog w h' d (without kvs k) → Kept [d] s₃.heap h' → Q ((valueAt kvs k).getD u) { s₃ with heap := h', toks := s₃.toks + 1 }) E s₂) E s₁) E s)
    (hbase : attributeBase o "pop" env (eval o env) = eval o env := by rfl)
    (hst : backTo pos (starEach [e, f] env) = [(false, eval e env), (false, eval f env)] := by rfl)
    (hline : (apos.endLine == pos.line) = true := by rfl) :
    wpAny (model prog w) A (eval (.Call (.Attribute o "pop" apos) [e, f] [] pos) env) Q E s := by
  refine bcall2 F.plainAttrs_dict F.slot_dict_pop F.type_dict_pop (wpAny_mono h (fun ov s₁ h₁ => ?_) fun _ _ x => x) hbase hst hline
  obtain ⟨d, rfl, hd, ⟨us, p⟩, h₁⟩ := h₁
  refine ⟨p.typeIs, p.nodict, method2_meetsIn F.slot_dict_pop F.entry_dict_pop (wpAny_mono h₁ (fun v s₂ h₂ => wpAny_mono h₂ (fun u s₃ h₃ => ?_) fun _ _ x => x) fun _ _ x => x)⟩
  obtain ⟨k, t, kvs, rfl, hm, hl, q⟩ := h₃
  have hd' : (d == sysModules) = false := by simp only [beq_eq_false_iff_ne]; intro e; rw [e] at hd; exact absurd hd (by decide)
  cases hv : valueAt kvs k with
  | some x =>
    refine ⟨hm.typeIs, F.args_dict_pop_3 _ _ _, _, meets_dict_pop_there (intKind prog w) d (intKind_is prog w k t) [u] (.inr ⟨_, rfl⟩) rfl, kvs, x, hm, by rw [sizeLine_eq]; omega, hv, fun h' a b => ?_⟩
    have := q h' a (Kept.of_sb b)
    rw [hv] at this; exact this
  | none =>
    refine ⟨hm.typeIs, F.args_dict_pop_3 _ _ _, _, meets_dict_pop_default (knd := intKind prog w) (d := d) (intKind_is prog w k t) hd' rfl u, kvs, hm, hv, ?_⟩
    have e : without kvs k = kvs := without_of_not_mem kvs k fun m => by
      have := isSome_valueAt (kvs := kvs) (k := k)
      rw [hv] at this
      obtain ⟨p, hp, rfl⟩ := List.mem_map.mp m
      have := List.any_eq_false.mp this.symm p hp
      simp at this
    have := q s₃.heap (by rw [e]; exact hm) (Kept.refl _ _)
    rw [hv] at this; exact this

/-- d.get(e, f) -/
theorem e_get2 {o e f : Expr} {apos pos : Pos} {Q : Value → Shared → Prop}
    (h : wpAny (model prog w) A (eval o env) (fun ov s₁ => ∃ d, ov = .ref d ∧ 350 ≤ d ∧ (∃ us, DI prog w s₁.heap d us) ∧
      wpAny (model prog w) A (eval e env) (fun v s₂ => wpAny (model prog w) A (eval f env) (fun u s₃ => ∃ k t kvs, v = .int k t ∧ DI prog w s₃.heap d kvs ∧
        Q ((valueAt kvs k).getD u) { s₃ with toks := s₃.toks + 1 }) E s₂) E s₁) E s)
    (hbase : attributeBase o "get" env (eval o env) = eval o env := by rfl)
    (hst : backTo pos (starEach [e, f] env) = [(false, eval e env), (false, eval f env)] := by rfl)
    (hline : (apos.endLine == pos.line) = true := by rfl) :
    wpAny (model prog w) A (eval (.Call (.Attribute o "get" apos) [e, f] [] pos) env) Q E s := by
  refine bcall2 F.plainAttrs_dict F.slot_dict_get F.type_dict_get (wpAny_mono h (fun ov s₁ h₁ => ?_) fun _ _ x => x) hbase hst hline
  obtain ⟨d, rfl, hd, ⟨us, p⟩, h₁⟩ := h₁
  have hd' : (d == sysModules) = false := by simp only [beq_eq_false_iff_ne]; intro e; rw [e] at hd; exact absurd hd (by decide)
  refine ⟨p.typeIs, p.nodict, wpAny_dict_get2 (knd := intKind prog w) hd' (wpAny_mono h₁ (fun v s₂ h₂ => wpAny_mono h₂ (fun u s₃ h₃ => ?_) fun _ _ x => x) fun _ _ x => x)⟩
  obtain ⟨k, t, kvs, rfl, hm, q⟩ := h₃
  exact ⟨k, _, intKind_is prog w k t, hm.mapOf, q⟩

/-- a new tuple, a new list -/
theorem e_tuple {elts : List Expr} {k : Nat} {pos : Pos} {Q : Value → Shared → Prop}
    (h : wpAny (model prog w) A (spliced (backTo pos (starEach elts env))) (fun vs s₁ => vs.length ≤ 1000 ∧
      ∀ h', PT h' s₁.heap.objs.size vs → Kept [] s₁.heap h' → Q (.ref s₁.heap.objs.size) { s₁ with heap := h' }) E s) : wpAny (model prog w) A (eval (.Tuple elts k pos) env) Q E s := by
  refine wpAny_Tuple (wpAny_mono h (fun vs s₁ h₁ => ⟨by rw [sizeLine_eq]; omega, h₁.2 _ ⟨0, Heap.get?_push_size _ rfl⟩ (Kept.push _ _)⟩) fun _ _ x => x)
theorem e_list {elts : List Expr} {pos : Pos} {Q : Value → Shared → Prop}
    (h : wpAny (model prog w) A (spliced (backTo pos (starEach elts env))) (fun vs s₁ => vs.length ≤ 1000 ∧
      ∀ h', PL h' s₁.heap.objs.size vs → Kept [] s₁.heap h' → Q (.ref s₁.heap.objs.size) { s₁ with heap := h' }) E s) : wpAny (model prog w) A (eval (.List elts pos) env) Q E s := by
  refine wpAny_List (wpAny_mono h (fun vs s₁ h₁ => ⟨by rw [sizeLine_eq]; omega, h₁.2 _ ⟨0, Heap.get?_push_size _ rfl⟩ (Kept.push _ _)⟩) fun _ _ x => x)
end

theorem fresh_none (h : Heap) : h.get? h.objs.size = none := by
  cases e : h.get? h.objs.size with
  | none => rfl
  | some o => exact absurd (Heap.lt_size e) (Nat.lt_irrefl _)
theorem not_at_size {h : Heap} {a : Addr} {o : Obj} (e : h.get? a = some o) : a ≠ h.objs.size := Nat.ne_of_lt (Heap.lt_size e)
end Mine
end

section
open PySem PySem.W PyProof.Rows PySem.Calls
namespace Mine
theorem if_yes {b : Bool} {P P' : Prop} (h : b = true) (x : P) : if b = true then P else P' := by rw [if_pos h]; exact x
theorem if_no {b : Bool} {P P' : Prop} (h : b = false) (x : P') : if b = true then P else P' := by rw [if_neg (by rw [h]; decide)]; exact x
/-- what no step here changes -/
structure Cx where
  g : Array GenState
  d : Drawn
  o : OsState
abbrev Cx.st (c : Cx) (h : Heap) (n : Nat) : Shared := ⟨h, c.g, c.d, n, c.o⟩

/-- a tree from a heap on, whatever the counter -/
structure W {α : Type} (prog : Program) (w : World) (c : Cx) (A : Around) (t : Sem α) (Q : α → Heap → Prop) (E : Value → Heap → Prop) (h : Heap) : Prop where
  out : ∀ n, wpAny (model prog w) A t (fun a s' => ∃ h' n', s' = c.st h' n' ∧ Q a h') (fun e s' => ∃ h' n', s' = c.st h' n' ∧ E e h') (c.st h n)

structure C (prog : Program) (w : World) (c : Cx) (A : Around) (k : Code) (R : Result → Heap → Prop) (h : Heap) : Prop where
  out : ∀ n, codeAny (model prog w) A k (fun r s' => ∃ h' n', s' = c.st h' n' ∧ R r h') (c.st h n)

/-! what is left to do, each under a name -/
section
variable (prog : Program) (w : World) (c : Cx) (A : Around) (E : Value → Heap → Prop) (env : Env)
abbrev KNe (Q : Flow → Heap → Prop) : Unit → Heap → Prop := fun _ => Q .next
abbrev KR (Q : Flow → Heap → Prop) : Value → Heap → Prop := fun v => Q (.ret v)
abbrev KBody (R : Result → Heap → Prop) : Flow → Heap → Prop := fun fl h' => R (.ok (.ret (match fl with | .ret v => v | _ => .none))) h'
def KSe (rest : List Stmt) (Q : Flow → Heap → Prop) : Flow → Heap → Prop := fun f h' => match f with | .next => W prog w c A (execs rest env) Q E h' | f => Q f h'
def KSt (x : Str) (Q : Flow → Heap → Prop) : Value → Heap → Prop := fun v h₁ => W prog w c A (storeName env x v) (KNe Q) E h₁
def KAt2 (attr : Str) (v : Value) (Q : Flow → Heap → Prop) : Value → Heap → Prop := fun ov h₂ => W prog w c A (setAttr ov attr v) (KNe Q) E h₂
def KAt1 (o : Expr) (attr : Str) (Q : Flow → Heap → Prop) : Value → Heap → Prop := fun v h₁ => W prog w c A (eval o env) (KAt2 prog w c A E attr v Q) E h₁
def KSb3 (ov v : Value) (Q : Flow → Heap → Prop) : Value → Heap → Prop := fun iv h₃ => W prog w c A (setItem ov iv v) (KNe Q) E h₃
def KSb2 (i : Expr) (v : Value) (Q : Flow → Heap → Prop) : Value → Heap → Prop := fun ov h₂ => W prog w c A (eval i env) (KSb3 prog w c A E ov v Q) E h₂
def KSb1 (o i : Expr) (Q : Flow → Heap → Prop) : Value → Heap → Prop := fun v h₁ => W prog w c A (eval o env) (KSb2 prog w c A E env i v Q) E h₁
def KTu (t : Expr) (Q : Flow → Heap → Prop) : Value → Heap → Prop := fun v h₁ => W prog w c A (assign t env v) (KNe Q) E h₁
def KIf (body orelse : List Stmt) (Q : Flow → Heap → Prop) : Bool → Heap → Prop := fun b h₂ => if b then W prog w c A (execs body env) Q E h₂ else W prog w c A (execs orelse env) Q E h₂
def KB2 (op : Operator) (a : Value) (Q : Value → Heap → Prop) : Value → Heap → Prop := fun b h₂ => W prog w c A (binaryOp op a b) Q E h₂
def KB1 (r : Expr) (op : Operator) (Q : Value → Heap → Prop) : Value → Heap → Prop := fun a h₁ => W prog w c A (eval r env) (KB2 prog w c A E op a Q) E h₁
def KC2 (op : CmpOp) (a : Value) (Q : Value → Heap → Prop) : Value → Heap → Prop := fun b h₂ => W prog w c A (compareOp op a b) Q E h₂
def KC1 (r : Expr) (op : CmpOp) (Q : Value → Heap → Prop) : Value → Heap → Prop := fun a h₁ => W prog w c A (eval r env) (KC2 prog w c A E op a Q) E h₁
def KT (Q : Bool → Heap → Prop) : Value → Heap → Prop := fun v h₁ => W prog w c A (truthy v) Q E h₁
abbrev KNot (Q : Bool → Heap → Prop) : Bool → Heap → Prop := fun b h₁ => Q (!b) h₁
def KAnd (rest : List Expr) (Q : Bool → Heap → Prop) : Bool → Heap → Prop := fun b h₁ => if b then W prog w c A (allTrue .And rest env) Q E h₁ else Q false h₁
def KOr (rest : List Expr) (Q : Bool → Heap → Prop) : Bool → Heap → Prop := fun b h₁ => if b then Q true h₁ else W prog w c A (allTrue .Or rest env) Q E h₁
def KIe (body orelse : Expr) (Q : Value → Heap → Prop) : Bool → Heap → Prop := fun b h₁ => if b then W prog w c A (eval body env) Q E h₁ else W prog w c A (eval orelse env) Q E h₁
def KGa (attr : Str) (Q : Value → Heap → Prop) : Value → Heap → Prop := fun o h₁ => W prog w c A (getAttr o attr true) Q E h₁
def KU2 (value slice : Expr) (o : Value) (Q : Value → Heap → Prop) : Value → Heap → Prop := fun i h₂ => W prog w c A (subscriptTail value slice o i) Q E h₂
def KU1 (value slice : Expr) (Q : Value → Heap → Prop) : Value → Heap → Prop := fun o h₁ => W prog w c A (eval slice env) (KU2 prog w c A E value slice o Q) E h₁
abbrev KCo (v : Value) (Q : List Value → Heap → Prop) : List Value → Heap → Prop := fun vs h₂ => Q (v :: vs) h₂
def KI (pos : Pos) (rest : List Expr) (Q : List Value → Heap → Prop) : Value → Heap → Prop := fun v h₁ => W prog w c A (spliced (backTo pos (starEach rest env))) (KCo v Q) E h₁
structure KTup (Q : Value → Heap → Prop) (vs : List Value) (h₁ : Heap) : Prop where
  len : vs.length ≤ 1000
  q : ∀ h', PT h' h₁.objs.size vs → Kept [] h₁ h' → Q (.ref h₁.objs.size) h'
structure KLis (Q : Value → Heap → Prop) (vs : List Value) (h₁ : Heap) : Prop where
  len : vs.length ≤ 1000
  q : ∀ h', PL h' h₁.objs.size vs → Kept [] h₁ h' → Q (.ref h₁.objs.size) h'
end

section
variable {α β : Type} {prog : Program} {w : World} {c : Cx} {A : Around} {E : Value → Heap → Prop} {h : Heap} {env : Env}

theorem W.go {t : Sem α} {Q : α → Heap → Prop} {P : α → Shared → Prop} {n : Nat} (x : W prog w c A t Q E h) (k : ∀ a h' n', Q a h' → P a (c.st h' n')) :
    wpAny (model prog w) A t P (fun e s' => ∃ h' n', s' = c.st h' n' ∧ E e h') (c.st h n) :=
  wpAny_mono (x.out n) (fun a s' ⟨h', n', e, q⟩ => by subst e; exact k a h' n' q) fun _ _ y => y
theorem W.mono {t : Sem α} {Q Q' : α → Heap → Prop} {E' : Value → Heap → Prop} (x : W prog w c A t Q E h) (k : ∀ a h', Q a h' → Q' a h') (kE : ∀ e h', E e h' → E' e h') : W prog w c A t Q' E' h :=
  ⟨fun n => wpAny_mono (x.out n) (fun a s' ⟨h', n', e, q⟩ => ⟨h', n', e, k a h' q⟩) fun e s' ⟨h', n', e', q⟩ => ⟨h', n', e', kE e h' q⟩⟩
theorem W.post {t : Sem α} {Q Q' : α → Heap → Prop} (x : W prog w c A t Q E h) (k : ∀ a h', Q a h' → Q' a h') : W prog w c A t Q' E h := x.mono k fun _ _ y => y
theorem C.mono {k : Code} {R R' : Result → Heap → Prop} (x : C prog w c A k R h) (f : ∀ r h', R r h' → R' r h') : C prog w c A k R' h :=
  ⟨fun n => codeAny_mono (x.out n) fun r s' ⟨h', n', e, q⟩ => ⟨h', n', e, f r h' q⟩⟩
theorem w_pure {a : α} {Q : α → Heap → Prop} (q : Q a h) : W prog w c A (pure a) Q E h := ⟨fun n => wpAny_pure ⟨h, n, rfl, q⟩⟩
/-! statements -/
theorem w_nil {Q : Flow → Heap → Prop} (q : Q .next h) : W prog w c A (execs [] env) Q E h := ⟨fun n => wpAny_execs_nil ⟨h, n, rfl, q⟩⟩
theorem w_cons {st : Stmt} {rest : List Stmt} {Q : Flow → Heap → Prop} (x : W prog w c A (exec st env) (KSe prog w c A E env rest Q) E h) : W prog w c A (execs (st :: rest) env) Q E h :=
  ⟨fun n => wpAny_execs_cons (x.go fun f h' n' q => by cases f <;> first | exact W.out q n' | exact ⟨h', n', rfl, q⟩)⟩
theorem w_Return {e : Expr} {pos : Pos} {Q : Flow → Heap → Prop} (x : W prog w c A (eval e env) (KR Q) E h) : W prog w c A (exec (.Return (some e) pos) env) Q E h := ⟨fun n => wpAny_Return_some (x.out n)⟩
theorem w_Return0 {pos : Pos} {Q : Flow → Heap → Prop} (q : Q (.ret .none) h) : W prog w c A (exec (.Return none pos) env) Q E h := ⟨fun n => wpAny_Return_none ⟨h, n, rfl, q⟩⟩
def NotRef (v : Value) : Prop := match v with | .ref _ => False | _ => True
theorem w_Expr {e : Expr} {pos : Pos} {Q : Flow → Heap → Prop} (x : W prog w c A (eval e env) (fun v h' => NotRef v ∧ Q .next h') E h)
    (hi : interactive env = false := by rfl) (hs : swapsWith e none pos.line env = pure false := by rfl) : W prog w c A (exec (.Expr e pos) env) Q E h :=
  ⟨fun n => wpAny_Expr (x.go fun v h' n' q => by cases v <;> first | exact q.1.elim | exact ⟨h', n', rfl, q.2⟩) hi hs⟩
theorem w_AssignName {x : Str} {xp pos : Pos} {value : Expr} {Q : Flow → Heap → Prop} (y : W prog w c A (eval value env) (KSt prog w c A E env x Q) E h)
    (hs : swapsWith value (some (.Name x xp)) pos.line env = pure false := by rfl) : W prog w c A (exec (.Assign [.Name x xp] value pos) env) Q E h :=
  ⟨fun n => wpAny_Assign_Name (y.go fun _ _ n' q => q.out n') hs⟩
theorem w_AssignAttr {o value : Expr} {attr : Str} {ap pos : Pos} {Q : Flow → Heap → Prop}
    (y : W prog w c A (eval value env) (KAt1 prog w c A E env o attr Q) E h)
    (hs : swapsWith value (some (.Attribute o attr ap)) pos.line env = pure false := by rfl) : W prog w c A (exec (.Assign [.Attribute o attr ap] value pos) env) Q E h :=
  ⟨fun n => plainObj_wpAny_Assign_Attribute (y.go fun _ _ n' q => q.go fun _ _ n' q => q.out n') hs⟩
theorem w_AssignSub {o i value : Expr} {ap pos : Pos} {Q : Flow → Heap → Prop}
    (y : W prog w c A (eval value env) (KSb1 prog w c A E env o i Q) E h)
    (hs : swapsWith value (some (.Subscript o i ap)) pos.line env = pure false := by rfl) : W prog w c A (exec (.Assign [.Subscript o i ap] value pos) env) Q E h :=
  ⟨fun n => wpAny_Assign_Subscript (y.go fun _ _ n' q => q.go fun _ _ n' q => q.go fun _ _ n' q => q.out n') hs⟩
theorem w_AssignTuple {elts : List Expr} {k : Nat} {tpos pos : Pos} {value : Expr} {Q : Flow → Heap → Prop}
    (y : W prog w c A (eval value env) (KTu prog w c A E env (.Tuple elts k tpos) Q) E h)
    (hs : swapsWithSole [.Tuple elts k tpos] value pos.line env = pure false := by rfl)
    (hw : swappedStores [.Tuple elts k tpos] value env = pure none := by rfl) : W prog w c A (exec (.Assign [.Tuple elts k tpos] value pos) env) Q E h :=
  ⟨fun n => Assign_Tuple (y.go fun _ _ n' q => q.out n') hs hw⟩
theorem w_If {test : Expr} {body orelse : List Stmt} {pos : Pos} {Q : Flow → Heap → Prop}
    (y : W prog w c A (isTrue test env (eval test env)) (KIf prog w c A E env body orelse Q) E h) : W prog w c A (exec (.If test body orelse pos) env) Q E h :=
  ⟨fun n => wpAny_If (y.go fun b _ n' q => by cases b <;> exact W.out q n')⟩

/-! expressions -/
theorem w_int {i : Int} {k : Nat} {pos : Pos} {Q : Value → Heap → Prop} (q : ∀ t, Q (.int i t) h) : W prog w c A (eval (.Constant (.int i) k pos) env) Q E h := ⟨fun n => wpAny_Constant_int ⟨_, _, rfl, q n⟩⟩
theorem w_str {x : Str} {k : Nat} {pos : Pos} {Q : Value → Heap → Prop} (q : ∀ t, Q (.str x t) h) : W prog w c A (eval (.Constant (.str x) k pos) env) Q E h := ⟨fun n => wpAny_Constant_str ⟨_, _, rfl, q n⟩⟩
theorem w_none {k : Nat} {pos : Pos} {Q : Value → Heap → Prop} (q : Q .none h) : W prog w c A (eval (.Constant .none k pos) env) Q E h := ⟨fun n => wpAny_Constant_none ⟨_, _, rfl, q⟩⟩
theorem w_bool {b : Bool} {k : Nat} {pos : Pos} {Q : Value → Heap → Prop} (q : Q (.bool b) h) : W prog w c A (eval (.Constant (.bool b) k pos) env) Q E h := ⟨fun n => wpAny_Constant_bool ⟨_, _, rfl, q⟩⟩
theorem w_BinOp {l r : Expr} {op : Operator} {pos : Pos} {Q : Value → Heap → Prop}
    (y : W prog w c A (eval l env) (KB1 prog w c A E env r op Q) E h) : W prog w c A (eval (.BinOp l op r pos) env) Q E h :=
  ⟨fun n => wpAny_BinOp (y.go fun _ _ n' q => q.go fun _ _ n' q => q.out n')⟩
theorem w_Cmp {l r : Expr} {op : CmpOp} {pos : Pos} {Q : Value → Heap → Prop}
    (y : W prog w c A (eval l env) (KC1 prog w c A E env r op Q) E h)
    (hm : behindInMarks op r = false := by with_unfolding_all rfl) : W prog w c A (eval (.Compare l [op] [r] pos) env) Q E h :=
  ⟨fun n => wpAny_Compare1 (y.go fun _ _ n' q => q.go fun _ _ n' q => q.out n') hm⟩
theorem w_tCmp {l r : Expr} {op : CmpOp} {pos : Pos} {whole : Sem Value} {Q : Bool → Heap → Prop}
    (y : W prog w c A (eval l env) (KC1 prog w c A E env r op (KT prog w c A E Q)) E h)
    (hm : behindInMarks op r = false := by with_unfolding_all rfl) : W prog w c A (isTrue (.Compare l [op] [r] pos) env whole) Q E h :=
  ⟨fun n => wpAny_isTrue_Compare1 (y.go fun _ _ n' q => q.go fun _ _ n' q => q.go fun _ _ n' q => q.out n') hm⟩
theorem w_tval {e : Expr} {whole : Sem Value} {Q : Bool → Heap → Prop} (y : W prog w c A whole (KT prog w c A E Q) E h)
    (he : isTrue e env whole = (do let v ← whole; standAt e.pos; holding [v] (truthy v)) := by rfl) : W prog w c A (isTrue e env whole) Q E h :=
  ⟨fun n => wpAny_isTrue_value (y.go fun _ _ n' q => q.out n') he⟩
theorem w_tNot {x : Expr} {pos : Pos} {whole : Sem Value} {Q : Bool → Heap → Prop} (y : W prog w c A (isTrue x env (eval x env)) (KNot Q) E h) : W prog w c A (isTrue (.UnaryOp .Not x pos) env whole) Q E h :=
  ⟨fun n => wpAny_isTrue_Not (y.out n)⟩
theorem w_tAnd {values : List Expr} {pos : Pos} {whole : Sem Value} {op : BoolOp} {Q : Bool → Heap → Prop} (y : W prog w c A (allTrue op values env) Q E h) : W prog w c A (isTrue (.BoolOp op values pos) env whole) Q E h :=
  ⟨fun n => wpAny_isTrue_BoolOp (y.out n)⟩
theorem w_and0 {Q : Bool → Heap → Prop} (q : Q true h) : W prog w c A (allTrue .And [] env) Q E h := ⟨fun n => wpAny_allTrue_And_nil ⟨_, _, rfl, q⟩⟩
theorem w_or0 {Q : Bool → Heap → Prop} (q : Q false h) : W prog w c A (allTrue .Or [] env) Q E h := ⟨fun n => wpAny_allTrue_Or_nil ⟨_, _, rfl, q⟩⟩
theorem w_and {x : Expr} {rest : List Expr} {Q : Bool → Heap → Prop} (y : W prog w c A (isTrue x env (eval x env)) (KAnd prog w c A E env rest Q) E h) : W prog w c A (allTrue .And (x :: rest) env) Q E h :=
  ⟨fun n => wpAny_allTrue_And_cons (y.go fun b h' n' q => by cases b <;> first | exact ⟨h', n', rfl, q⟩ | exact W.out q n')⟩
theorem w_or {x : Expr} {rest : List Expr} {Q : Bool → Heap → Prop} (y : W prog w c A (isTrue x env (eval x env)) (KOr prog w c A E env rest Q) E h) : W prog w c A (allTrue .Or (x :: rest) env) Q E h :=
  ⟨fun n => wpAny_allTrue_Or_cons (y.go fun b h' n' q => by cases b <;> first | exact ⟨h', n', rfl, q⟩ | exact W.out q n')⟩
theorem w_Or2 {x y : Expr} {pos : Pos} {Q : Value → Heap → Prop}
    (z : W prog w c A (eval x env) (fun v h₁ => W prog w c A (truthy v) (fun t h₂ => if t then Q v h₂ else W prog w c A (eval y env) Q E h₂) E h₁) E h) : W prog w c A (eval (.BoolOp .Or [x, y] pos) env) Q E h :=
  ⟨fun n => wpAny_Or2 (z.go fun _ _ n' q => q.go fun t h' n' q => by cases t <;> first | exact ⟨h', n', rfl, q⟩ | exact W.out q n')⟩
theorem w_And2 {x y : Expr} {pos : Pos} {Q : Value → Heap → Prop}
    (z : W prog w c A (eval x env) (fun v h₁ => W prog w c A (truthy v) (fun t h₂ => if t then W prog w c A (eval y env) Q E h₂ else Q v h₂) E h₁) E h) : W prog w c A (eval (.BoolOp .And [x, y] pos) env) Q E h :=
  ⟨fun n => wpAny_And2 (z.go fun _ _ n' q => q.go fun t h' n' q => by cases t <;> first | exact ⟨h', n', rfl, q⟩ | exact W.out q n')⟩
theorem w_IfExp {test body orelse : Expr} {pos : Pos} {Q : Value → Heap → Prop}
    (y : W prog w c A (isTrue test env (eval test env)) (KIe prog w c A E env body orelse Q) E h) : W prog w c A (eval (.IfExp test body orelse pos) env) Q E h :=
  ⟨fun n => wpAny_IfExp (y.go fun b _ n' q => by cases b <;> exact W.out q n')⟩
theorem w_Attr {value : Expr} {attr : Str} {pos : Pos} {Q : Value → Heap → Prop} (y : W prog w c A (eval value env) (KGa prog w c A E attr Q) E h)
    (he : eval (.Attribute value attr pos) env = (do
      let o ← eval value env
      standAt pos.atName
      let r ← holding [o] (getAttr o attr true)
      letTemporaryGo value o r
      pure r) := by with_unfolding_all rfl) : W prog w c A (eval (.Attribute value attr pos) env) Q E h :=
  ⟨fun n => Attribute_any_ (y.go fun _ _ n' q => q.out n') he⟩
theorem w_Sub {value slice : Expr} {pos : Pos} {Q : Value → Heap → Prop} (y : W prog w c A (eval value env) (KU1 prog w c A E env value slice Q) E h) :
    W prog w c A (eval (.Subscript value slice pos) env) Q E h := ⟨fun n => Subscript_ (y.go fun _ _ n' q => q.go fun _ _ n' q => q.out n')⟩
theorem w_items0 {pos : Pos} {Q : List Value → Heap → Prop} (q : Q [] h) : W prog w c A (spliced (backTo pos (starEach [] env))) Q E h := ⟨fun n => wpAny_items_nil ⟨_, _, rfl, q⟩⟩
theorem w_items {pos : Pos} {e : Expr} {rest : List Expr} {Q : List Value → Heap → Prop}
    (y : W prog w c A (eval e env) (KI prog w c A E env pos rest Q) E h)
    (he : starEach (e :: rest) env = (false, eval e env) :: starEach rest env := by rfl) : W prog w c A (spliced (backTo pos (starEach (e :: rest) env))) Q E h :=
  ⟨fun n => wpAny_items_cons (y.go fun _ _ n' q => q.out n') he⟩
theorem w_Tuple {elts : List Expr} {k : Nat} {pos : Pos} {Q : Value → Heap → Prop}
    (y : W prog w c A (spliced (backTo pos (starEach elts env))) (KTup Q) E h) : W prog w c A (eval (.Tuple elts k pos) env) Q E h :=
  ⟨fun n => e_tuple (y.go fun _ _ n' q => ⟨q.1, fun h' a b => ⟨_, _, rfl, q.2 h' a b⟩⟩)⟩
theorem w_List {elts : List Expr} {pos : Pos} {Q : Value → Heap → Prop}
    (y : W prog w c A (spliced (backTo pos (starEach elts env))) (KLis Q) E h) : W prog w c A (eval (.List elts pos) env) Q E h :=
  ⟨fun n => e_list (y.go fun _ _ n' q => ⟨q.1, fun h' a b => ⟨_, _, rfl, q.2 h' a b⟩⟩)⟩

/-! names -/
theorem w_ns {m : Str → Option Value} {x : Str} {pos : Pos} {v : Value} {Q : Value → Heap → Prop} (N : h.Ns env.locals m) (hv : m x = some v) (q : Q v h)
    (hk : env.scope.kind = .function := by rfl) (hl : env.kindOf x = some .local := by rfl) (hd : (x == ("__debug__" : Str)) = false := by decide) : W prog w c A (eval (.Name x pos) env) Q E h :=
  ⟨fun n => wpAny_Name (wpAny_loadName_local (s := c.st h n) hk hl N hv ⟨_, _, rfl, q⟩) hd⟩
theorem w_ld {base : Heap} {m : Str → Option Value} {x : Str} {pos : Pos} {v : Value} {Q : Value → Heap → Prop} (F : Fr base env.locals h m) (hv : m x = some v) (q : Q v h)
    (hk : env.scope.kind = .function := by rfl) (hl : env.kindOf x = some .local := by rfl) (hd : (x == ("__debug__" : Str)) = false := by decide) : W prog w c A (eval (.Name x pos) env) Q E h :=
  w_ns F.ns hv q hk hl hd
def put (x : Str) (v : Value) (m : Str → Option Value) : Str → Option Value := fun y => if y = x then some v else m y
theorem w_st {base : Heap} {L : Addr} {m : Str → Option Value} {x : Str} {v : Value} {Q : Unit → Heap → Prop} (F : Fr base L h m)
    (q : ∀ h', Fr base L h' (put x v m) → Kept [L] h h' → Q () h')
    (hL : env.locals = L := by rfl) (hl : env.kindOf x = some .local := by rfl) (hp : (env.scope.kind == .class || (env.scope.kind == .module && env.locals != env.globals)) = false := by rfl) : W prog w c A (storeName env x v) Q E h := by
  subst hL
  exact ⟨fun n => wpAny_storeName_local (s := c.st h n) hl F.ns (fun h' hn hs => ⟨_, _, rfl, q h' (F.set hn hs) (Kept.of_sb hs)⟩) hp⟩
theorem w_cell {x : Str} {pos : Pos} {a : Addr} {v : Value} {Q : Value → Heap → Prop} (hv : h.IsCell a (some v)) (q : Q v h)
    (hk : env.scope.kind = .function := by rfl) (hl : env.kindOf x = some .cell := by rfl) (hc : env.cells.lookup x = some a := by rfl) (hd : (x == ("__debug__" : Str)) = false := by decide) : W prog w c A (eval (.Name x pos) env) Q E h :=
  ⟨fun n => wpAny_Name (wpAny_loadName_cell (s := c.st h n) hk hl hc hv ⟨_, _, rfl, q⟩) hd⟩
/-! ints -/
theorem w_truthy {b : Bool} {Q : Bool → Heap → Prop} (q : Q b h) : W prog w c A (truthy (.bool b)) Q E h := ⟨fun n => wpAny_truthy_bool ⟨_, _, rfl, q⟩⟩
section
variable {a b : Int} {t u : Tok} {Q : Value → Heap → Prop}
theorem w_add (q : ∀ t, Q (.int (a + b) t) h) : W prog w c A (binaryOp .Add (.int a t) (.int b u)) Q E h := ⟨fun n => add_int ⟨_, _, rfl, q _⟩⟩
theorem w_sub (q : ∀ t, Q (.int (a - b) t) h) : W prog w c A (binaryOp .Sub (.int a t) (.int b u)) Q E h := ⟨fun n => PyProof.Rows.sub_int ⟨_, _, rfl, q _⟩⟩
end

/-! calls -/
def Back (Q : Value → Heap → Prop) (E : Value → Heap → Prop) : Result → Heap → Prop := fun r h' => match r with | .ok (.ret v) => Q v h' | .ok _ => False | .error e => E e h'
theorem w_call {f : Value} {pos : List Value} {Q : Value → Heap → Prop} (x : C prog w c A (.call f ⟨pos, []⟩) (Back Q E) h) : W prog w c A (call f pos) Q E h :=
  ⟨fun n => wpAny_call (codeAny_mono (x.out n) fun r s' y => by
    obtain ⟨h', n', e, q⟩ := y
    rcases r with e' | (_ | _ | _ | v)
    · exact ⟨h', n', e, q⟩
    · exact q.elim
    · exact q.elim
    · exact q.elim
    · exact ⟨h', n', e, q⟩)⟩
end

section
variable {prog : Program} {w : World} {c : Cx} {A : Around} {base h : Heap}

theorem cf {R : Result → Heap → Prop} {name qual : Str} {params : Arguments} {body : List Stmt} {scope : Scope} {dV kV doc pm cdv ct oc : Value} {an od : Option Addr} {osl : Array (Option Value)} {f : Addr} {args : Args} {n : Nat}
    (binds : List (Str × Value)) (B : Base w base) (kp : In0 base h) (room : Room A n)
    (ho : (KF w.params).lookup f = some ⟨oc, od, .func (fnOf name qual params body scope dV kV doc pm an cdv ct), osl⟩) (hcd : codeIn (KF w.params) cdv qual = true)
    (hbind : ∀ s : Shared, s.heap = h → BindsTo s (fnOf name qual params body scope dV kV doc pm an cdv ct) args binds) (hloc : ∀ y ∈ binds, scope.names.lookup y.1 = some .local)
    (x : ∀ h₁, Fr base h.objs.size h₁ (fun y => binds.reverse.lookup y) → Kept [] h h₁ →
      W prog w c (A.deeper (envOf qual scope h.objs.size f cdv)) (execs body (envOf qual scope h.objs.size f cdv)) (KBody R) (fun _ _ => False) h₁)
    (hco : scope.isCoroutine = false := by rfl) (hgen : scope.isGenerator = false := by rfl) (hk : scope.kind = .function := by rfl)
    (hcell : ∀ x ∈ scope.names, x.2 ≠ .cell := by decide) : C prog w c A (.call (.ref f) args) R h :=
  ⟨fun n => callf (s := c.st h n) binds B kp room ho hcd (hbind _ rfl) hloc (fun h₁ F k =>
    wpAny_mono ((x h₁ F k).out _) (fun _ _ y => y) fun _ _ ⟨_, _, _, y⟩ => y.elim) hco hgen hk hcell⟩

/-- a def whose one cell is a parameter -/
theorem cfC {R : Result → Heap → Prop} {name qual : Str} {params : Arguments} {body : List Stmt} {scope : Scope} {dV kV doc pm cdv ct oc : Value} {an od : Option Addr} {osl : Array (Option Value)} {f : Addr} {vals : List Value} {n : Nat}
    (binds : List (Str × Value)) (x : Str) (v : Value) (B : Base w base) (kp : In0 base h) (room : Room A n)
    (ho : (KF w.params).lookup f = some ⟨oc, od, .func (fnOf name qual params body scope dV kV doc pm an cdv ct), osl⟩) (hcd : codeIn (KF w.params) cdv qual = true)
    (hbind : bindArgs (fnOf name qual params body scope dV kV doc pm an cdv ct) ⟨vals, []⟩ = pure binds)
    (hcl : ∀ n, cellsFrom n scope.names [] = [(x, n)])
    (hkind : (binds.all fun y => scope.names.lookup y.1 == some .local || y.1 == x) = true)
    (hx : scope.names.lookup x = some .cell)
    (hv : bindC (envOfC qual scope h.objs.size f cdv).kindOf binds (fun _ => none) x = some v)
    (q : ∀ h₁, Fr base h.objs.size h₁ (bindL (envOfC qual scope h.objs.size f cdv).kindOf binds fun _ => none) → h₁.IsCell (h.objs.size + 1) (some v) → Kept [] h h₁ →
      W prog w c (A.deeper (envOfC qual scope h.objs.size f cdv)) (execs body (envOfC qual scope h.objs.size f cdv)) (KBody R) (fun _ _ => False) h₁)
    (hco : scope.isCoroutine = false := by rfl) (hgen : scope.isGenerator = false := by rfl) (hk : scope.kind = .function := by rfl) : C prog w c A (.call (.ref f) ⟨vals, []⟩) R h :=
  ⟨fun n => codeAny_call_cells (s := c.st h n) (fd := fnOf name qual params body scope dV kV doc pm an cdv ct) room.lt (kp _ _ (B.X _ _ ho)) rfl (B.lim.keeps kp) (codeRec_of (B.In kp) hcd) rfl hbind rfl
    (fun y hy => by
      have := List.all_eq_true.mp hkind y hy
      rcases Bool.or_eq_true_iff.mp this with z | z
      · exact .inl (beq_iff_eq.mp z)
      · refine .inr ⟨by rw [beq_iff_eq.mp z]; exact hx, ?_⟩
        show ((cellsFrom _ scope.names []).lookup y.1).isSome = true
        rw [hcl, beq_iff_eq.mp z]; simp)
    (fun s₁ I => by
      obtain ⟨h₁, tk, e⟩ := I.toInCall.same; subst e
      refine wpAny_mono ((q h₁ ⟨I.toInCall.ns, fun b o e => I.toInCall.keep b o (kp b o e), B.ge kp⟩ ?_ (Kept.of_all I.toInCall.keep)).out _) (fun _ _ y => y) fun _ _ ⟨_, _, _, y⟩ => y.elim
      have := I.cell x (h.objs.size + 1) (by show (cellsFrom (h.objs.size + 1) scope.names []).lookup x = _; rw [hcl]; simp)
      rwa [show (bindC (callEnvC (fnOf name qual params body scope dV kV doc pm an cdv ct) h.objs.size f).kindOf binds (fun _ => none) x) = some v from hv] at this) hco hgen hk⟩
end
end Mine
end

section
open PySem PySem.W PyProof.Rows PySem.Calls
namespace Mine
section
variable {prog : Program} {w : World} {c : Cx} {A : Around} {E : Value → Heap → Prop} {base h : Heap} {env : Env}

/-- a method of an own class, the callee a written def -/
theorem w_mcall {o : Expr} {name : Str} {apos pos : Pos} {e : Expr} {rest : List Expr} {pl : Sem Bool} {Q : Value → Heap → Prop} (B : Base w base)
    (y : W prog w c A (eval o env) (fun ov h₁ => ∃ x C d l f, ov = .ref x ∧ In0 base h₁ ∧ Inst h₁ x C d l ∧ l.lookup name = none ∧ plainGet (KF w.params) C name = true ∧
      findIn (KF w.params) (.ref C) name = some (some (.ref f)) ∧ isFn (KF w.params) (.ref f) = true ∧ keepIn (KF w.params) (.ref f) = true ∧
      W prog w c A (spliced (backTo pos (starEach (e :: rest) env))) (fun vs h₂ => In0 base h₂ ∧ Mine.C prog w c A (.call (.ref f) ⟨.ref x :: vs, []⟩) (Back Q E) h₂) E h₁) E h)
    (he : eval (.Call (.Attribute o name apos) (e :: rest) [] pos) env = (do
      let ov ← eval o env
      standAt apos.atName
      let (f, first) ← holding [ov] (getMethod ov name pl)
      callWith pos f first (backTo pos (starEach (e :: rest) env)) (backToKw pos (keywordEach [] env))) := by rfl)
    (hst : starEach (e :: rest) env = (false, eval e env) :: starEach rest env := by rfl) (hplain : (backTo pos (starEach rest env)).any (·.1) = false := by rfl) :
    W prog w c A (eval (.Call (.Attribute o name apos) (e :: rest) [] pos) env) Q E h := by
  refine ⟨fun n => methodCall_KW (pl := pl) (y.go fun ov h₁ n₁ q => ?_) he⟩
  obtain ⟨x, C, d, l, f, rfl, hk, I, hl, hg, hf, hfn, hkp, q⟩ := q
  refine get_meth (s := c.st h₁ n₁) (B.In hk) I hl hg hf hfn ?_
  exact callWith_K (K := KF w.params) (B.In hk) hkp (q.go fun vs h₂ n₂ q => ⟨B.In q.1, (w_call q.2).out n₂⟩) hst hplain

theorem w_mcall0 {o : Expr} {name : Str} {apos pos : Pos} {pl : Sem Bool} {Q : Value → Heap → Prop} (B : Base w base)
    (y : W prog w c A (eval o env) (fun ov h₁ => ∃ x C d l f, ov = .ref x ∧ In0 base h₁ ∧ Inst h₁ x C d l ∧ l.lookup name = none ∧ plainGet (KF w.params) C name = true ∧
      findIn (KF w.params) (.ref C) name = some (some (.ref f)) ∧ isFn (KF w.params) (.ref f) = true ∧ keepIn (KF w.params) (.ref f) = true ∧
      Mine.C prog w c A (.call (.ref f) ⟨[.ref x], []⟩) (Back Q E) h₁) E h)
    (he : eval (.Call (.Attribute o name apos) [] [] pos) env = (do
      let ov ← eval o env
      standAt apos.atName
      let (f, first) ← holding [ov] (getMethod ov name pl)
      callWith pos f first (backTo pos (starEach [] env)) (backToKw pos (keywordEach [] env))) := by rfl) :
    W prog w c A (eval (.Call (.Attribute o name apos) [] [] pos) env) Q E h := by
  refine ⟨fun n => methodCall_KW (pl := pl) (y.go fun ov h₁ n₁ q => ?_) he⟩
  obtain ⟨x, C, d, l, f, rfl, hk, I, hl, hg, hf, hfn, hkp, q⟩ := q
  refine get_meth (s := c.st h₁ n₁) (B.In hk) I hl hg hf hfn ?_
  exact callWith_K0 (K := KF w.params) (B.In hk) hkp ((w_call q).out n₁)

/-! lists, dicts -/
theorem w_append {o e : Expr} {apos pos : Pos} {Q : Value → Heap → Prop}
    (y : W prog w c A (eval o env) (fun ov h₁ => ∃ l, ov = .ref l ∧ (∃ us, PL h₁ l us) ∧
      W prog w c A (eval e env) (fun v h₂ => ∃ vs, PL h₂ l vs ∧ vs.length ≤ 100000 ∧ ∀ h', PL h' l (vs ++ [v]) → Kept [l] h₂ h' → Q .none h') E h₁) E h)
    (hbase : attributeBase o "append" env (eval o env) = eval o env := by rfl)
    (hst : backTo pos (starEach [e] env) = [(false, eval e env)] := by rfl)
    (hline : (apos.endLine == pos.line) = true := by rfl) : W prog w c A (eval (.Call (.Attribute o "append" apos) [e] [] pos) env) Q E h :=
  ⟨fun n => e_append (y.go fun ov h₁ n₁ ⟨l, a, b, q⟩ => ⟨l, a, b, q.go fun v h₂ n₂ ⟨vs, p, z, q⟩ => ⟨vs, p, z, fun h' p' k' => ⟨_, _, rfl, q h' p' k'⟩⟩⟩) hbase hst hline⟩
theorem w_remove {o e : Expr} {apos pos : Pos} {Q : Value → Heap → Prop}
    (y : W prog w c A (eval o env) (fun ov h₁ => ∃ l, ov = .ref l ∧ (∃ us, PL h₁ l us) ∧
      W prog w c A (eval e env) (fun v h₂ => ∃ pre x post, PL h₂ l (pre ++ x :: post) ∧ (pre ++ x :: post).length ≤ 100000 ∧
        (∃ q : Value → Bool, (∀ y ∈ pre ++ x :: post, MeetsSeq.EqGives y v (q y)) ∧ q x = true ∧ ∀ y ∈ pre, q y = false) ∧ ∀ h', PL h' l (pre ++ post) → Kept [l] h₂ h' → Q .none h') E h₁) E h)
    (hbase : attributeBase o "remove" env (eval o env) = eval o env := by rfl)
    (hst : backTo pos (starEach [e] env) = [(false, eval e env)] := by rfl)
    (hline : (apos.endLine == pos.line) = true := by rfl) : W prog w c A (eval (.Call (.Attribute o "remove" apos) [e] [] pos) env) Q E h :=
  ⟨fun n => e_remove (y.go fun ov h₁ n₁ ⟨l, a, b, q⟩ => ⟨l, a, b, q.go fun v h₂ n₂ ⟨pre, x, post, p, z, t, q⟩ => ⟨pre, x, post, p, z, t, fun h' p' k' => ⟨_, _, rfl, q h' p' k'⟩⟩⟩) hbase hst hline⟩
theorem w_pop1 {o e : Expr} {apos pos : Pos} {Q : Value → Heap → Prop}
    (y : W prog w c A (eval o env) (fun ov h₁ => ∃ d, ov = .ref d ∧ (∃ us, DI prog w h₁ d us) ∧
      W prog w c A (eval e env) (fun v h₂ => ∃ k t kvs x, v = .int k t ∧ DI prog w h₂ d kvs ∧ kvs.length ≤ 100000 ∧ valueAt kvs k = some x ∧
        ∀ h', DI prog w h' d (without kvs k) → Kept [d] h₂ h' → Q x h') E h₁) E h)
    (hbase : attributeBase o "pop" env (eval o env) = eval o env := by rfl)
    (hst : backTo pos (starEach [e] env) = [(false, eval e env)] := by rfl)
    (hline : (apos.endLine == pos.line) = true := by rfl) : W prog w c A (eval (.Call (.Attribute o "pop" apos) [e] [] pos) env) Q E h :=
  ⟨fun n => e_pop1 (y.go fun ov h₁ n₁ ⟨l, a, b, q⟩ => ⟨l, a, b, q.go fun v h₂ n₂ ⟨k, t, kvs, x, p, z, u, r, q⟩ => ⟨k, t, kvs, x, p, z, u, r, fun h' p' k' => ⟨_, _, rfl, q h' p' k'⟩⟩⟩) hbase hst hline⟩
theorem w_pop2 {o e f : Expr} {apos pos : Pos} {Q : Value → Heap → Prop}
    (y : W prog w c A (eval o env) (fun ov h₁ => ∃ d, ov = .ref d ∧ 350 ≤ d ∧ (∃ us, DI prog w h₁ d us) ∧
      W prog w c A (eval e env) (fun v h₂ => W prog w c A (eval f env) (fun u h₃ => ∃ k t kvs, v = .int k t ∧ DI prog w h₃ d kvs ∧ kvs.length ≤ 100000 ∧
        ∀ h', DI prog w h' d (without kvs k) → Kept [d] h₃ h' → Q ((valueAt kvs k).getD u) h') E h₂) E h₁) E h)
    (hbase : attributeBase o "pop" env (eval o env) = eval o env := by rfl)
    (hst : backTo pos (starEach [e, f] env) = [(false, eval e env), (false, eval f env)] := by rfl)
    (hline : (apos.endLine == pos.line) = true := by rfl) : W prog w c A (eval (.Call (.Attribute o "pop" apos) [e, f] [] pos) env) Q E h :=
  ⟨fun n => e_pop2 (y.go fun ov h₁ n₁ ⟨l, a, b, d, q⟩ => ⟨l, a, b, d, q.go fun v h₂ n₂ q => q.go fun u h₃ n₃ ⟨k, t, kvs, p, z, r, q⟩ => ⟨k, t, kvs, p, z, r, fun h' p' k' => ⟨_, _, rfl, q h' p' k'⟩⟩⟩) hbase hst hline⟩
theorem w_get2 {o e f : Expr} {apos pos : Pos} {Q : Value → Heap → Prop}
    (y : W prog w c A (eval o env) (fun ov h₁ => ∃ d, ov = .ref d ∧ 350 ≤ d ∧ (∃ us, DI prog w h₁ d us) ∧
      W prog w c A (eval e env) (fun v h₂ => W prog w c A (eval f env) (fun u h₃ => ∃ k t kvs, v = .int k t ∧ DI prog w h₃ d kvs ∧ Q ((valueAt kvs k).getD u) h₃) E h₂) E h₁) E h)
    (hbase : attributeBase o "get" env (eval o env) = eval o env := by rfl)
    (hst : backTo pos (starEach [e, f] env) = [(false, eval e env), (false, eval f env)] := by rfl)
    (hline : (apos.endLine == pos.line) = true := by rfl) : W prog w c A (eval (.Call (.Attribute o "get" apos) [e, f] [] pos) env) Q E h :=
  ⟨fun n => e_get2 (y.go fun ov h₁ n₁ ⟨l, a, b, d, q⟩ => ⟨l, a, b, d, q.go fun v h₂ n₂ q => q.go fun u h₃ n₃ ⟨k, t, kvs, p, z, q⟩ => ⟨k, t, kvs, p, z, ⟨_, _, rfl, q⟩⟩⟩) hbase hst hline⟩
theorem w_din {d : Addr} {kvs : List (Int × Value)} {k : Int} {t : Tok} {Q : Value → Heap → Prop} (hm : DI prog w h d kvs) (hd : 350 ≤ d) (q : Q (.bool (kvs.any fun kv => kv.1 = k)) h) :
    W prog w c A (compareOp .In (.int k t) (.ref d)) Q E h := ⟨fun n => d_in (s := c.st h n) hm hd ⟨_, _, rfl, q⟩⟩
theorem w_dnotin {d : Addr} {kvs : List (Int × Value)} {k : Int} {t : Tok} {Q : Value → Heap → Prop} (hm : DI prog w h d kvs) (hd : 350 ≤ d) (q : Q (.bool (!(kvs.any fun kv => kv.1 = k))) h) :
    W prog w c A (compareOp .NotIn (.int k t) (.ref d)) Q E h := ⟨fun n => d_notin (s := c.st h n) hm hd ⟨_, _, rfl, q⟩⟩
theorem w_dset {d : Addr} {kvs : List (Int × Value)} {k : Int} {t : Tok} {v : Value} {Q : Unit → Heap → Prop} (hm : DI prog w h d kvs) (hl : kvs.length ≤ 100000)
    (q : ∀ h', DI prog w h' d (stored kvs k v) → Kept [d] h h' → Q () h') : W prog w c A (setItem (.ref d) (.int k t) v) Q E h :=
  ⟨fun n => d_set (s := c.st h n) hm hl fun h' a b => ⟨_, _, rfl, q h' a b⟩⟩
theorem w_dget {value slice : Expr} {d : Addr} {kvs : List (Int × Value)} {k : Int} {t : Tok} {v : Value} {Q : Value → Heap → Prop} (hm : DI prog w h d kvs) (hv : valueAt kvs k = some v) (q : Q v h)
    (hs : subscripted slice false (.ref d) (.int k t) = operate [.ref d, .int k t] (getItem (.ref d) (.int k t)) := by with_unfolding_all rfl) :
    W prog w c A (subscriptTail value slice (.ref d) (.int k t)) Q E h := ⟨fun n => d_get (s := c.st h n) hm hv ⟨_, _, rfl, q⟩ hs⟩

/-! attributes -/
theorem w_ga {x C d : Addr} {name : Str} {v : Value} {l : List (Str × Value)} {expr : Bool} {Q : Value → Heap → Prop} {attr : Option Value} (B : Base w base) (kp : In0 base h) (I : Inst h x C d l) (hl : l.lookup name = some v) (hg : plainGet (KF w.params) C name = true) (hh : hasDictIn (KF w.params) C = true)
    (ha : findIn (KF w.params) (.ref C) name = some attr) (hn : noGet (KF w.params) attr = true) (hv : handedIn v = true) (q : Q v h) : W prog w c A (getAttr (.ref x) name expr) Q E h :=
  ⟨fun n => get_attr (s := c.st h n) (B.In kp) I hl hg hh ha hn hv ⟨_, _, rfl, q⟩⟩
theorem w_sa {x C d : Addr} {name : Str} {v : Value} {l : List (Str × Value)} {Q : Unit → Heap → Prop} (B : Base w base) (kp : In0 base h) (I : Inst h x C d l) (hxd : x ≠ d)
    (hs : findIn (KF w.params) (.ref C) "__setattr__" = some (some (.builtin "object.__setattr__"))) (hp : plainOver (KF w.params) C = true) (ht : takerIn (KF w.params) C name = some none) (hh : hasDictIn (KF w.params) C = true)
    (hz : l.length ≤ 900) (q : ∀ h', Inst h' x C d (setA name v l) → Kept [d] h h' → Q () h') : W prog w c A (setAttr (.ref x) name v) Q E h :=
  ⟨fun n => set_attr (s := c.st h n) (B.In kp) I hxd hs hp ht hh hz fun h' I' sb => ⟨_, _, rfl, q h' I' (Kept.of_sb sb)⟩⟩
end
end Mine
end

section
open PySem PySem.W PyProof.Rows PySem.Calls
namespace Mine
section
variable {prog : Program} {w : World} {c : Cx} {A : Around} {E : Value → Heap → Prop} {base h : Heap} {env : Env}

theorem PT.isTuple {h : Heap} {a : Addr} {vs : List Value} (x : PT h a vs) : h.IsTuple a vs.toArray := let ⟨n, e⟩ := x; ⟨_, e, rfl, n, rfl⟩

abbrev NoE : Value → Heap → Prop := fun _ _ => False

theorem noted_false {α : Type} {t : Sem α} {Q : α → Shared → Prop} {E' : Value → Shared → Prop} {s : Shared} {M : Model} (x : wpAny M A t Q (fun e s' => ∃ h' n', s' = c.st h' n' ∧ NoE e h') s) : wpAny M A t Q E' s :=
  wpAny_mono x (fun _ _ y => y) fun _ _ ⟨_, _, _, y⟩ => y.elim

/-- a for over anything that walks; one name -/
theorem w_For {x : Str} {xp pos : Pos} {iter : Expr} {body orelse : List Stmt} {Q : Flow → Heap → Prop}
    (y : W prog w c A (eval iter env) (fun v h₁ => W prog w c A (pyIter v) (fun it h₂ => ∃ I fp wr n P St, ∃ Inv : Nat → Heap → Prop, it = .ref I ∧ Walks prog w A I fp wr n P St ∧ St 0 h₂ ∧ Inv 0 h₂ ∧
      (∀ i h h', Inv i h → Kept wr h h' → Inv i h') ∧
      (∀ i v h, i < n → P i v → St (i + 1) h → Inv i h → W prog w c A (storeName env x v) (fun _ h₂ => W prog w c A (execs body env) (fun f h₃ => match f with
        | .next | .cont => Inv (i + 1) h₃ ∧ (∀ b ∈ fp, ∀ o, h.get? b = some o → h₃.get? b = some o)
        | .brk => Q .next h₃
        | .ret v => Q (.ret v) h₃) NoE h₂) NoE h) ∧
      (∀ h, Inv n h → W prog w c A (execs orelse env) Q NoE h)) E h₁) E h)
    (hs : ∀ x, foldedSetIterable iter env x = pure x := by intro _; rfl) :
    W prog w c A (exec (.For (.Name x xp) iter body orelse pos) env) Q E h := by
  refine ⟨fun n₀ => wpAny_For (y.go fun v h₁ n₁ q => q.go fun it h₂ n₂ q => ?_) hs⟩
  obtain ⟨I, fp, wr, n, P, St, Inv, rfl, Wk, st0, inv0, hst, turn, fin⟩ := q
  refine codeAny_forLoop (fun m s => ∃ i hh tk, s = c.st hh tk ∧ i ≤ n ∧ m = n - i ∧ St i hh ∧ Inv i hh) ?_ (n - 0) ⟨0, h₂, n₂, rfl, Nat.zero_le _, rfl, st0, inv0⟩
  rintro m s ⟨i, hh, tk, rfl, hi, rfl, st, inv⟩
  by_cases hlt : i < n
  · refine Wk.item i _ _ _ hlt st fun v h' tk' hp st' hk => ?_
    have inv' := hst i hh h' inv (fun b o e n => hk b o n e)
    refine noted_false ((W.go (c := c) (n := tk') (Q := fun _ h₂ => W prog w c A (execs body env) (fun f h₃ => match f with
        | .next | .cont => Inv (i + 1) h₃ ∧ (∀ b ∈ fp, ∀ o, h'.get? b = some o → h₃.get? b = some o)
        | .brk => Q .next h₃
        | .ret v => Q (.ret v) h₃) NoE h₂) ⟨fun n' => wpAny_assign_Name ((turn i v h' hlt hp st' inv').out n')⟩ fun _ h₃ n₃ q => noted_false (q.go fun f h₄ n₄ q => ?_)))
    cases f with
    | next => exact ⟨n - (i + 1), by omega, i + 1, h₄, n₄, rfl, hlt, rfl, Wk.frame _ _ _ st' q.2, q.1⟩
    | cont => exact ⟨n - (i + 1), by omega, i + 1, h₄, n₄, rfl, hlt, rfl, Wk.frame _ _ _ st' q.2, q.1⟩
    | brk => exact ⟨h₄, n₄, rfl, q⟩
    | ret v => exact ⟨h₄, n₄, rfl, q⟩
  · have : i = n := by omega
    subst this
    refine Wk.done _ _ _ st fun h' tk' hk => noted_false (c := c) ?_
    exact ((fin h' (hst i hh h' inv (fun b o e n => hk b o n e))).out tk')

theorem w_While {test : Expr} {body orelse : List Stmt} {pos : Pos} {Q : Flow → Heap → Prop} (Inv : Nat → Heap → Prop)
    (turn : ∀ n h, Inv n h → W prog w c A (isTrue test env (eval test env)) (fun b h₂ => if b then W prog w c A (execs body env) (fun f h₃ => match f with
        | .next | .cont => ∃ m, m < n ∧ Inv m h₃
        | .brk => Q .next h₃
        | .ret v => Q (.ret v) h₃) NoE h₂ else W prog w c A (execs orelse env) Q NoE h₂) NoE h)
    (n : Nat) (h0 : Inv n h) : W prog w c A (exec (.While test body orelse pos) env) Q E h := by
  refine ⟨fun n₀ => wpAny_While (codeAny_whileLoop (fun m s => ∃ hh tk, s = c.st hh tk ∧ Inv m hh) ?_ n ⟨h, n₀, rfl, h0⟩)⟩
  rintro m s ⟨hh, tk, rfl, inv⟩
  refine noted_false ((turn m hh inv).go fun b h₂ n₂ q => ?_)
  cases b with
  | true =>
    refine noted_false (W.go q fun f h₃ n₃ q => ?_)
    cases f with
    | next => obtain ⟨m', hm, q⟩ := q; exact ⟨m', hm, h₃, n₃, rfl, q⟩
    | cont => obtain ⟨m', hm, q⟩ := q; exact ⟨m', hm, h₃, n₃, rfl, q⟩
    | brk => exact ⟨h₃, n₃, rfl, q⟩
    | ret v => exact ⟨h₃, n₃, rfl, q⟩
  | false => exact noted_false (W.go q fun f h₃ n₃ q => ⟨h₃, n₃, rfl, q⟩)

/-! iterators -/
theorem w_iterL {l : Addr} {vs : List Value} {Q : Value → Heap → Prop} (p : PL h l vs)
    (q : ∀ h', Kept [] h h' → h'.IsListIter h.objs.size l 0 → h.objs.size < h'.objs.size → Q (.ref h.objs.size) h') : W prog w c A (pyIter (.ref l)) Q E h :=
  ⟨fun n => wpAny_pyIter_list (s := c.st h n) p.isList ⟨_, _, rfl, q _ (Kept.push _ _) ⟨_, Heap.get?_push_size _ rfl, rfl, rfl⟩ (by show _ < (Array.push _ _).size; simp)⟩⟩
theorem w_iterT {l : Addr} {vs : List Value} {Q : Value → Heap → Prop} (p : PT h l vs)
    (q : ∀ h', Kept [] h h' → h'.IsTupleIter h.objs.size l 0 → h.objs.size < h'.objs.size → Q (.ref h.objs.size) h') : W prog w c A (pyIter (.ref l)) Q E h :=
  ⟨fun n => wpAny_pyIter_tuple (s := c.st h n) p.isTuple ⟨_, _, rfl, q _ (Kept.push _ _) ⟨_, Heap.get?_push_size _ rfl, rfl, rfl⟩ (by show _ < (Array.push _ _).size; simp)⟩⟩

/-! unpacking -/
theorem ext_fresh {h h' : Heap} (x : Heap.ExtBut h.objs.size h h') : Kept [] h h' := fun b o e _ => x b o (not_at_size e) e
theorem w_unpack2 {x y : Str} {xp yp pos : Pos} {k : Nat} {t : Addr} {u v : Value} {Q : Unit → Heap → Prop} (hh : A.handled = none) (p : PT h t [u, v])
    (q : ∀ h', Kept [] h h' → W prog w c A (storeName env x u) (fun _ h₁ => W prog w c A (storeName env y v) (fun _ => Q ()) E h₁) E h') :
    W prog w c A (assign (.Tuple [.Name x xp, .Name y yp] k pos) env (.ref t)) Q E h := by
  refine ⟨fun n => wpAny_assign_Tuple (s := c.st h n) hh p.isTuple rfl rfl fun h' he => ?_⟩
  show wpAny _ _ (do holding [v] (assign (.Name x xp) env u); holding [] (assign (.Name y yp) env v); pure ()) _ _ _
  refine wpAny_bind (wpAny_holding (wpAny_assign_Name ((q h' (ext_fresh he)).go fun _ h₁ n₁ q => ?_)))
  exact wpAny_bind (wpAny_holding (wpAny_assign_Name (q.go fun _ h₂ n₂ q => wpAny_pure ⟨h₂, n₂, rfl, q⟩)))
theorem unpackN {s : Shared} {E : Value → Shared → Prop} {t : Addr} {vs : List Value} {n : Nat} {Q : List Value → Shared → Prop} (hh : A.handled = none) (p : PT s.heap t vs) (hn : n = vs.length)
    (q : ∀ h', Kept [] s.heap h' → Q vs { s with heap := h' }) : wpAny (model prog w) A (unpackItems (.ref t) n none) Q E s := by
  have e : n = vs.toArray.size := by rw [hn, List.size_toArray]
  subst e
  exact unpackItems_tuple hh p.isTuple fun h' he => q h' (ext_fresh he)
/-- a, b = (e, f): the stores swapped -/
theorem w_swap2 {x y : Str} {elts : List Expr} {k : Nat} {tpos pos : Pos} {value : Expr} {Q : Flow → Heap → Prop} (hh : A.handled = none)
    (z : W prog w c A (eval value env) (fun r h₁ => ∃ t u v, r = .ref t ∧ PT h₁ t [u, v] ∧ ∀ h', Kept [] h₁ h' → W prog w c A (storeName env y v) (fun _ h₂ => W prog w c A (storeName env x u) (fun _ => Q .next) E h₂) E h') E h)
    (hw : swappedStores [.Tuple elts k tpos] value env = pure (some [x, y]) := by rfl)
    (hs : swapsWithSole [.Tuple elts k tpos] value pos.line env = pure false := by rfl) : W prog w c A (exec (.Assign [.Tuple elts k tpos] value pos) env) Q E h := by
  refine ⟨fun n => Assign_Tuple_swapped (z.go fun r h₁ n₁ q => ?_) hs hw⟩
  obtain ⟨t, u, v, rfl, p, q⟩ := q
  refine unpackN (s := c.st h₁ n₁) hh p rfl fun h' he => ?_
  show wpAny _ _ (do holding [u] (bindName env y v); holding [] (bindName env x u); pure ()) _ _ _
  refine wpAny_bind (wpAny_holding (wpAny_bindName ((q h' he).go fun _ h₁ n₁ q => ?_)))
  exact wpAny_bind (wpAny_holding (wpAny_bindName (q.go fun _ h₂ n₂ q => wpAny_pure ⟨h₂, n₂, rfl, q⟩)))
theorem w_swap3 {x y z' : Str} {elts : List Expr} {k : Nat} {tpos pos : Pos} {value : Expr} {Q : Flow → Heap → Prop} (hh : A.handled = none)
    (z : W prog w c A (eval value env) (fun r h₁ => ∃ t u v v', r = .ref t ∧ PT h₁ t [u, v, v'] ∧ ∀ h', Kept [] h₁ h' → W prog w c A (storeName env z' v') (fun _ h₂ => W prog w c A (storeName env y v) (fun _ h₃ => W prog w c A (storeName env x u) (fun _ => Q .next) E h₃) E h₂) E h') E h)
    (hw : swappedStores [.Tuple elts k tpos] value env = pure (some [x, y, z']) := by rfl)
    (hs : swapsWithSole [.Tuple elts k tpos] value pos.line env = pure false := by rfl) : W prog w c A (exec (.Assign [.Tuple elts k tpos] value pos) env) Q E h := by
  refine ⟨fun n => Assign_Tuple_swapped (z.go fun r h₁ n₁ q => ?_) hs hw⟩
  obtain ⟨t, u, v, v', rfl, p, q⟩ := q
  refine unpackN (s := c.st h₁ n₁) hh p rfl fun h' he => ?_
  show wpAny _ _ (do holding [v, u] (bindName env z' v'); holding [u] (bindName env y v); holding [] (bindName env x u); pure ()) _ _ _
  refine wpAny_bind (wpAny_holding (wpAny_bindName ((q h' he).go fun _ h₁ n₁ q => ?_)))
  refine wpAny_bind (wpAny_holding (wpAny_bindName (q.go fun _ h₁ n₁ q => ?_)))
  exact wpAny_bind (wpAny_holding (wpAny_bindName (q.go fun _ h₂ n₂ q => wpAny_pure ⟨h₂, n₂, rfl, q⟩)))

/-! built-ins -/
theorem w_lenL {l : Addr} {vs : List Value} {Q : Value → Heap → Prop} (p : PL h l vs) (hl : vs.length ≤ 100000) (q : ∀ t, Q (.int vs.length t) h) : W prog w c A (call (.builtin "len") [.ref l]) Q E h :=
  ⟨fun n => call_len_list (s := c.st h n) p.isList (by simp; omega) ⟨_, _, rfl, by simpa using q _⟩⟩
theorem w_max {a b : Int} {t u : Tok} {Q : Value → Heap → Prop} (hh : A.handled = none) (q : ∀ h' t, Kept [] h h' → Q (.int (max a b) t) h') : W prog w c A (call (.builtin "max") [.int a t, .int b u]) Q E h :=
  ⟨fun n => max_two_ints (s := c.st h n) hh fun h' tk hk => by
    by_cases x : b > a
    · rw [if_pos x]; exact ⟨_, _, rfl, by have := q h' u (Kept.of_all hk); rwa [show max a b = b by omega] at this⟩
    · rw [if_neg x]; exact ⟨_, _, rfl, by have := q h' t (Kept.of_all hk); rwa [show max a b = a by omega] at this⟩⟩
theorem w_min {a b : Int} {t u : Tok} {Q : Value → Heap → Prop} (hh : A.handled = none) (q : ∀ h' t, Kept [] h h' → Q (.int (min a b) t) h') : W prog w c A (call (.builtin "min") [.int a t, .int b u]) Q E h :=
  ⟨fun n => min_two_ints (s := c.st h n) hh fun h' tk hk => by
    by_cases x : b < a
    · rw [if_pos x]; exact ⟨_, _, rfl, by have := q h' u (Kept.of_all hk); rwa [show min a b = b by omega] at this⟩
    · rw [if_neg x]; exact ⟨_, _, rfl, by have := q h' t (Kept.of_all hk); rwa [show min a b = a by omega] at this⟩⟩
theorem w_tuple {l : Addr} {vs : List Value} {Q : Value → Heap → Prop} (p : PL h l vs) (hl : vs.length ≤ 100000) (q : ∀ h' a, Kept [] h h' → (∀ b o, h.get? b = some o → b < a) → PT h' a vs → Q (.ref a) h') : W prog w c A (call (.type "tuple") [.ref l]) Q E h :=
  ⟨fun n => call_tuple_list (s := c.st h n) p.isList (fun h' hk => ⟨_, _, rfl, q _ _ ((Kept.of_all hk).trans (Kept.push _ _)) (fun b o e => Heap.lt_size (hk _ _ e)) ⟨0, Heap.get?_push_size _ rfl⟩⟩) (by rw [sizeLine_eq]; simp; omega)⟩
theorem w_list {l : Addr} {vs : List Value} {Q : Value → Heap → Prop} (p : PT h l vs) (hl : vs.length ≤ 100000) (q : ∀ h', Kept [] h h' → PL h' h.objs.size vs → Q (.ref h.objs.size) h') : W prog w c A (call (.type "list") [.ref l]) Q E h := by
  obtain ⟨k, e⟩ := p
  exact ⟨fun n => call_list_seq (s := c.st h n) l (.inr rfl) e rfl rfl (fun h' c' hk e' => ⟨_, _, rfl, q h' (Kept.of_all hk) ⟨c', e'⟩⟩) (by rw [sizeLine_eq]; simp; omega)⟩
theorem w_tadd {a b : Addr} {vs us : List Value} {Q : Value → Heap → Prop} (p : PT h a vs) (p' : PT h b us) (h1 : vs ≠ []) (h2 : us ≠ []) (hl : vs.length + us.length ≤ 100000)
    (q : ∀ h', Kept [] h h' → PT h' h.objs.size (vs ++ us) → Q (.ref h.objs.size) h') : W prog w c A (binaryOp .Add (.ref a) (.ref b)) Q E h := by
  obtain ⟨k, e⟩ := p; obtain ⟨k', e'⟩ := p'
  exact ⟨fun n => P.add_tuple (s := c.st h n) e e' (by simpa using h1) (by simpa using h2) ⟨_, _, rfl, q _ (Kept.push _ _) ⟨0, by simpa using Heap.get?_push_size h (o := { cls := .type "tuple", data := .seq (vs.toArray ++ us.toArray) }) rfl⟩⟩ (by rw [sizeLine_eq]; simp; omega)⟩
end
end Mine
end

section
open PySem PySem.W PyProof.Rows PySem.Calls
namespace Mine
section
variable {prog : Program} {w : World} {c : Cx} {A : Around} {E : Value → Heap → Prop} {base h : Heap} {env : Env}

abbrev testsOf (ifs : List Expr) (env : Env) : Sem Bool := forIn ifs true fun c r => if r = true then do let ok ← isTrue c env (eval c env); pure (ForInStep.yield ok) else pure (ForInStep.yield r)
theorem w_tests0 {Q : Bool → Heap → Prop} (q : Q true h) : W prog w c A (testsOf [] env) Q E h := ⟨fun n => wpAny_tests_nil ⟨_, _, rfl, q⟩⟩
theorem w_tests1 {e : Expr} {Q : Bool → Heap → Prop} (q : W prog w c A (isTrue e env (eval e env)) Q E h) : W prog w c A (testsOf [e] env) Q E h := ⟨fun n => wpAny_tests_one (q.out n)⟩

theorem of_noE {α : Type} {t : Sem α} {Q : α → Heap → Prop} {P : α → Shared → Prop} {E' : Value → Shared → Prop} {n : Nat} (x : W prog w c A t Q NoE h) (k : ∀ a h' n', Q a h' → P a (c.st h' n')) : wpAny (model prog w) A t P E' (c.st h n) :=
  noted_false (x.go k)

/-- a list comprehension of one clause over what walks -/
theorem w_ListComp {elt iter : Expr} {x : Str} {px : Pos} {ifs : List Expr} {scope : Scope} {pos : Pos} {Q : Value → Heap → Prop} (cl : List (Str × Addr)) (p : Value → Bool) (F : Value → Value → Prop)
    (hclos : closureFor scope env = pure cl) (hcell : ∀ y ∈ scope.names, y.2 ≠ .cell) (hkind : scope.kind = .function)
    (hnames : ∀ y ∈ scope.names, y.2 = .local → scope.names.lookup y.1 = some .local) (hx : scope.names.lookup x = some .local)
    (y : W prog w c A (eval iter env) (fun xv h₁ => W prog w c A (pyIter xv) (fun it h₂ => ∃ I fp wr n P St, it = .ref I ∧ Walks prog w A I fp wr n P St ∧ n ≤ 100000 ∧ St 0 h₂ ∧ (∀ b ∈ fp, b < h₂.objs.size) ∧
      (∀ c' C i v h₃ m₃, h₂.objs.size ≤ C → P i v → h₃.Ns C m₃ → m₃ x = some v → Kept wr h₂ h₃ → W prog w c' A (testsOf ifs (compEnvC scope cl C env)) (fun ok h₄ => ok = p v ∧ Kept [] h₃ h₄) NoE h₃) ∧
      (∀ c' C i v h₃ m₃, h₂.objs.size ≤ C → P i v → p v = true → h₃.Ns C m₃ → m₃ x = some v → Kept wr h₂ h₃ → W prog w c' A (eval elt (compEnvC scope cl C env)) (fun u h₄ => F v u ∧ Kept [] h₃ h₄) NoE h₃) ∧
      (∀ D h' ys (vs : List Value), h₂.get? D = none → PL h' D ys → vs.length = n → (∀ j v, vs[j]? = some v → P j v) → Paired F (vs.filter p) ys → Kept wr h₂ h' → Q (.ref D) h')) E h₁) E h)
    (hs : ∀ x, foldedSetIterable iter env x = pure x := by intro _; rfl) :
    W prog w c A (eval (.ListComp elt [⟨.Name x px, iter, ifs, 0⟩] scope pos) env) Q E h := by
  refine ⟨fun n₀ => wpAny_ListComp_free p F hclos hcell hkind hnames hx (y.go fun xv h₁ n₁ q => q.go fun it h₂ n₂ q => ?_) hs⟩
  obtain ⟨I, fp, wr, n, P, St, rfl, Wk, hn, st, hfp, ht, he, q⟩ := q
  refine ⟨I, fp, wr, n, P, St, rfl, Wk, by rw [sizeLine_eq]; omega, st, hfp, ⟨?_, ?_⟩, ?_⟩
  · rintro C i v ⟨h₃, g, d, tk, os⟩ m₃ E' hC hp hN hm hk _
    exact of_noE (c := ⟨g, d, os⟩) (ht ⟨g, d, os⟩ C i v h₃ m₃ hC hp hN hm fun b o e n => hk b o n e) fun a h' n' q => ⟨q.1, h', n', rfl, q.2.all⟩
  · rintro C i v ⟨h₃, g, d, tk, os⟩ m₃ E' hC hp hpv hN hm hk _
    exact of_noE (c := ⟨g, d, os⟩) (he ⟨g, d, os⟩ C i v h₃ m₃ hC hp hpv hN hm fun b o e n => hk b o n e) fun a h' n' q => ⟨q.1, h', n', rfl, q.2.all⟩
  · intro D h' tk ys vs hD _ hp hl hv hpair hk
    refine ⟨h', tk, rfl, q D h' ys.toList vs hD ?_ hl hv hpair (fun b o e n => hk b o n e)⟩
    obtain ⟨k, e⟩ := hp
    exact ⟨k, by simpa using e⟩

/-- the same over a plain list -/
theorem w_LC {elt iter : Expr} {x : Str} {px : Pos} {ifs : List Expr} {scope : Scope} {pos : Pos} {Q : Value → Heap → Prop} (cl : List (Str × Addr)) (p : Value → Bool) (F : Value → Value → Prop) (hh : A.handled = none)
    (hclos : closureFor scope env = pure cl) (hcell : ∀ y ∈ scope.names, y.2 ≠ .cell) (hkind : scope.kind = .function)
    (hnames : ∀ y ∈ scope.names, y.2 = .local → scope.names.lookup y.1 = some .local) (hx : scope.names.lookup x = some .local)
    (y : W prog w c A (eval iter env) (fun xv h₁ => ∃ l vs, xv = .ref l ∧ (PL h₁ l vs ∨ PT h₁ l vs) ∧ vs.length ≤ 100000 ∧
      (∀ c' C v h₃ m₃, h₁.objs.size ≤ C → v ∈ vs → h₃.Ns C m₃ → m₃ x = some v → Kept [] h₁ h₃ → W prog w c' A (testsOf ifs (compEnvC scope cl C env)) (fun ok h₄ => ok = p v ∧ Kept [] h₃ h₄) NoE h₃) ∧
      (∀ c' C v h₃ m₃, h₁.objs.size ≤ C → v ∈ vs → p v = true → h₃.Ns C m₃ → m₃ x = some v → Kept [] h₁ h₃ → W prog w c' A (eval elt (compEnvC scope cl C env)) (fun u h₄ => F v u ∧ Kept [] h₃ h₄) NoE h₃) ∧
      (∀ D h' ys, h₁.get? D = none → PL h' D ys → Paired F (vs.filter p) ys → Kept [] h₁ h' → Q (.ref D) h')) E h)
    (hs : ∀ x, foldedSetIterable iter env x = pure x := by intro _; rfl) :
    W prog w c A (eval (.ListComp elt [⟨.Name x px, iter, ifs, 0⟩] scope pos) env) Q E h := by
  refine w_ListComp cl p F hclos hcell hkind hnames hx (y.post fun xv h₁ q => ?_) hs
  obtain ⟨l, vs, rfl, pl, hl, ht, he, q⟩ := q
  have key : ∀ (P : Nat → Value → Prop) (St : Nat → Heap → Prop) (h₂ : Heap), Kept [] h₁ h₂ → (∀ i v, P i v → vs[i]? = some v) → Walks prog w A h₁.objs.size [h₁.objs.size, l] [h₁.objs.size] vs.length P St → St 0 h₂ → h₁.objs.size < h₂.objs.size → l < h₁.objs.size →
      ∃ I fp wr n P St, (Value.ref h₁.objs.size : Value) = .ref I ∧ Walks prog w A I fp wr n P St ∧ n ≤ 100000 ∧ St 0 h₂ ∧ (∀ b ∈ fp, b < h₂.objs.size) ∧
      (∀ c' C i v h₃ m₃, h₂.objs.size ≤ C → P i v → h₃.Ns C m₃ → m₃ x = some v → Kept wr h₂ h₃ → W prog w c' A (testsOf ifs (compEnvC scope cl C env)) (fun ok h₄ => ok = p v ∧ Kept [] h₃ h₄) NoE h₃) ∧
      (∀ c' C i v h₃ m₃, h₂.objs.size ≤ C → P i v → p v = true → h₃.Ns C m₃ → m₃ x = some v → Kept wr h₂ h₃ → W prog w c' A (eval elt (compEnvC scope cl C env)) (fun u h₄ => F v u ∧ Kept [] h₃ h₄) NoE h₃) ∧
      (∀ D h' ys (us : List Value), h₂.get? D = none → PL h' D ys → us.length = n → (∀ j v, us[j]? = some v → P j v) → Paired F (us.filter p) ys → Kept wr h₂ h' → Q (.ref D) h') := by
    intro P St h₂ k₂ hP Wk st lt lt'
    have nf : ∀ {h₃ : Heap}, Kept [h₁.objs.size] h₂ h₃ → Kept [] h₁ h₃ := fun k => Kept.drop (S := []) (k₂.nil.trans k) (fun a ha => by rw [List.mem_singleton.mp ha]; exact fresh_none h₁)
    refine ⟨_, _, _, _, P, St, rfl, Wk, hl, st, fun b hb => ?_, ?_, ?_, ?_⟩
    · rcases List.mem_cons.mp hb with rfl | hb
      · exact lt
      · rw [List.mem_singleton.mp hb]; exact Nat.lt_trans lt' lt
    · intro c' C i v h₃ m₃ hC hp hN hm hk
      exact ht c' C v h₃ m₃ (Nat.le_trans (Nat.le_of_lt lt) hC) (List.mem_of_getElem? (hP i v hp)) hN hm (nf hk)
    · intro c' C i v h₃ m₃ hC hp hpv hN hm hk
      exact he c' C v h₃ m₃ (Nat.le_trans (Nat.le_of_lt lt) hC) (List.mem_of_getElem? (hP i v hp)) hpv hN hm (nf hk)
    · intro D h' ys us hD hp hu hv hpair hk
      have e : us = vs := by
        apply List.ext_getElem? 
        intro j
        cases q : us[j]? with
        | some v => rw [hP j v (hv j v q)]
        | none =>
          have := List.getElem?_eq_none_iff.mp q
          exact (List.getElem?_eq_none_iff.mpr (by omega)).symm
      subst e
      refine q D h' ys ?_ hp hpair (nf hk)
      cases q : h₁.get? D with
      | none => rfl
      | some o => rw [k₂.all _ _ q] at hD; cases hD
  rcases pl with pl | pl
  · refine w_iterL pl fun h₂ k₂ it lt => ?_
    have hne := Nat.ne_of_lt pl.lt
    exact key _ _ h₂ k₂ (fun i v e => by simpa using e) (Walks.list hh h₁.objs.size l hne vs.toArray) ⟨it, (pl.kept k₂ (by simp)).isList⟩ lt pl.lt
  · refine w_iterT pl fun h₂ k₂ it lt => ?_
    have hne := Nat.ne_of_lt pl.lt
    exact key _ _ h₂ k₂ (fun i v e => by simpa using e) (Walks.tuple hh h₁.objs.size l hne vs.toArray) ⟨it, (pl.kept k₂ (by simp)).isTuple⟩ lt pl.lt

/-- a for over a plain list or tuple; one name -/
theorem w_ForL {x : Str} {xp pos : Pos} {iter : Expr} {body orelse : List Stmt} {Q : Flow → Heap → Prop} (hh : A.handled = none)
    (y : W prog w c A (eval iter env) (fun v h₁ => ∃ l vs, ∃ Inv : Nat → Heap → Prop, v = .ref l ∧ (PL h₁ l vs ∨ PT h₁ l vs) ∧ (∀ h', Kept [] h₁ h' → Inv 0 h') ∧
      (∀ i h h', Inv i h → Kept [h₁.objs.size] h h' → Inv i h') ∧
      (∀ i v h, vs[i]? = some v → Inv i h → W prog w c A (storeName env x v) (fun _ h₂ => W prog w c A (execs body env) (fun f h₃ => match f with
        | .next | .cont => Inv (i + 1) h₃ ∧ (∃ S, Kept S h h₃ ∧ l ∉ S ∧ h₁.objs.size ∉ S)
        | .brk => Q .next h₃
        | .ret v => Q (.ret v) h₃) NoE h₂) NoE h) ∧
      (∀ h, Inv vs.length h → W prog w c A (execs orelse env) Q NoE h)) E h)
    (hs : ∀ x, foldedSetIterable iter env x = pure x := by intro _; rfl) :
    W prog w c A (exec (.For (.Name x xp) iter body orelse pos) env) Q E h := by
  refine w_For (y.post fun v h₁ q => ?_) hs
  obtain ⟨l, vs, Inv, rfl, pl, i0, ist, turn, fin⟩ := q
  rcases pl with pl | pl
  · refine w_iterL pl fun h₂ k₂ it lt => ?_
    have hne := Nat.ne_of_lt pl.lt
    refine ⟨_, _, _, _, _, _, Inv, rfl, Walks.list hh h₁.objs.size l hne vs.toArray, ⟨it, (pl.kept k₂ (by simp)).isList⟩, i0 _ k₂, ist, ?_, fun h' i' => fin h' (by simpa using i')⟩
    intro i v h' hi hp st inv
    refine (turn i v h' (by simpa using hp) inv).post fun _ h₂ q => q.post fun f h₃ q => ?_
    cases f <;> first | exact q | (obtain ⟨a, S, k, n1, n2⟩ := q; exact ⟨a, fun b hb o e => k b o e (by rcases List.mem_cons.mp hb with rfl | hb; exact n2; rw [List.mem_singleton.mp hb]; exact n1)⟩)
  · refine w_iterT pl fun h₂ k₂ it lt => ?_
    have hne := Nat.ne_of_lt pl.lt
    refine ⟨_, _, _, _, _, _, Inv, rfl, Walks.tuple hh h₁.objs.size l hne vs.toArray, ⟨it, (pl.kept k₂ (by simp)).isTuple⟩, i0 _ k₂, ist, ?_, fun h' i' => fin h' (by simpa using i')⟩
    intro i v h' hi hp st inv
    refine (turn i v h' (by simpa using hp) inv).post fun _ h₂ q => q.post fun f h₃ q => ?_
    cases f <;> first | exact q | (obtain ⟨a, S, k, n1, n2⟩ := q; exact ⟨a, fun b hb o e => k b o e (by rcases List.mem_cons.mp hb with rfl | hb; exact n2; rw [List.mem_singleton.mp hb]; exact n1)⟩)
end
end Mine
end

section
open PySem PySem.W PyProof.Rows PySem.Calls
namespace Mine
theorem preSum_take (ns : List Int) : ∀ j, j ≤ ns.length → preSum (fun i => ns.getD i 0) j = (ns.take j).sum
  | 0, _ => by simp [preSum]
  | j + 1, h => by
    have ih := preSum_take ns j (by omega)
    have hj : j < ns.length := by omega
    rw [preSum, ih, List.take_succ_eq_append_getElem hj, List.sum_append]
    simp [hj]
theorem sum_bound {M : Int} : ∀ {ns : List Int}, (∀ z ∈ ns, 0 ≤ z ∧ z ≤ M) → 0 ≤ ns.sum ∧ ns.sum ≤ ns.length * M
  | [], _ => by simp
  | z :: r, h => by
    have h1 := h z List.mem_cons_self
    have h2 := sum_bound (ns := r) fun y hy => h y (List.mem_cons_of_mem _ hy)
    simp only [List.sum_cons, List.length_cons]
    have : ((r.length + 1 : Nat) : Int) * M = r.length * M + M := by rw [Int.natCast_add, Int.add_mul]; simp
    omega

section
variable {prog : Program} {w : World} {c : Cx} {A : Around} {E : Value → Heap → Prop} {base h : Heap} {env : Env}
theorem w_sum {l : Addr} {vs : List Value} {ns : List Int} {Q : Value → Heap → Prop} (hh : A.handled = none) (p : PL h l vs) (hi : IntsAre vs ns) (hz : ∀ z ∈ ns, 0 ≤ z ∧ z ≤ 10000) (hl : ns.length ≤ 100000)
    (q : ∀ h' t, Kept [] h h' → Q (.int ns.sum t) h') : W prog w c A (call (.builtin "sum") [.ref l]) Q E h := by
  refine ⟨fun n => call_sum_walk ?_⟩
  refine (w_iterL (c := c) (A := A.in1) (E := E) p (Q := fun it h₂ => ∃ I fp wr n P St val, it = .ref I ∧ Walks prog w A.in1 I fp wr n P St ∧ St 0 h₂ ∧ (∀ b ∈ fp, b < h₂.objs.size) ∧
      (∀ i v, P i v → ∃ t, v = .int (val i) t) ∧ (∀ j, j < n → InLong (val j) ∧ InLong (preSum val (j + 1))) ∧
      ∀ h' t', Kept wr h₂ h' → Q (.int (preSum val n) t') h') fun h₂ k₂ it lt => ?_).go fun it h₂ n₂ q => ?_
  · have hne := Nat.ne_of_lt p.lt
    refine ⟨_, _, _, _, fun i v => vs.toArray[i]? = some v, _, fun i => ns.getD i 0, rfl, Walks.list (A := A.in1) hh h.objs.size l hne vs.toArray, ⟨it, (p.kept k₂ (by simp)).isList⟩, fun b hb => ?_, fun i v (e : vs.toArray[i]? = some v) => hi.int_at i v (by simpa using e), fun j hj => ?_, fun h' t' k => ?_⟩
    · rcases List.mem_cons.mp hb with rfl | hb
      · exact lt
      · rw [List.mem_singleton.mp hb]; exact Nat.lt_trans p.lt lt
    · have hj' : j < ns.length := by rw [← hi.length]; simpa using hj
      rw [preSum_take ns (j + 1) hj']
      have b1 : ∀ z ∈ ns.take (j + 1), 0 ≤ z ∧ z ≤ 10000 := fun z hz' => hz z (List.mem_of_mem_take hz')
      have b2 := sum_bound b1
      have b3 : (ns.take (j + 1)).length ≤ 100000 := by simp; omega
      have b4 := hz (ns.getD j 0) (by simp [hj'])
      unfold InLong
      show (-(2 ^ 63) ≤ ns.getD j 0 ∧ ns.getD j 0 < 2 ^ 63) ∧ _
      refine ⟨⟨by omega, by omega⟩, by omega, ?_⟩
      have : ((ns.take (j + 1)).length : Int) * 10000 ≤ 100000 * 10000 := by omega
      omega
    · have e : preSum (fun i => ns.getD i 0) vs.toArray.size = ns.sum := by
        rw [show vs.toArray.size = ns.length by rw [List.size_toArray]; exact hi.length, preSum_take ns _ (Nat.le_refl _), List.take_length]
      rw [e]
      exact q h' t' (Kept.drop (S := []) (k₂.nil.trans k) (fun a ha => by rw [List.mem_singleton.mp ha]; exact fresh_none h))
  · obtain ⟨I, fp, wr, n, P, St, val, rfl, Wk, st, hfp, hv, hb, q⟩ := q
    exact ⟨I, fp, wr, n, P, St, val, rfl, Wk, st, hfp, hv, hb, fun h' tk t' k => ⟨h', tk, rfl, q h' t' fun b o e nn => k b o nn e⟩⟩
end
end Mine
end

section
open PySem PySem.W PyProof.Rows PySem.Calls
namespace Mine
section
variable {prog : Program} {w : World} {c : Cx} {A : Around} {E : Value → Heap → Prop} {base h : Heap} {env : Env}

theorem w_glob {x : Str} {pos : Pos} {v : Value} {Q : Value → Heap → Prop} (B : Base w base) (kp : In0 base h) (e : nsIn (KF w.params) mainGlobals x = some (some v)) (q : Q v h)
    (hk : env.scope.kind = .function := by rfl) (hx : env.kindOf x = some .globalImplicit := by rfl) (hg : env.globals = mainGlobals := by rfl) (hdb : (x == ("__debug__" : Str)) = false := by decide) : W prog w c A (eval (.Name x pos) env) Q E h := by
  obtain ⟨p, loose, mg, mb, T⟩ := B.T
  exact ⟨fun n => Name_function_global (s := c.st h n) hk hx (loadGlobal_global (env := env) (by rw [hg]; exact T.g.keeps kp) (mg_of B.X T.g e) ⟨_, _, rfl, q⟩) hdb⟩
theorem w_blt {x : Str} {pos : Pos} {v : Value} {Q : Value → Heap → Prop} (B : Base w base) (kp : In0 base h) (e : nsIn (KF w.params) mainGlobals x = some none) (hv : bootBuiltins x = some v) (hn : x ≠ "__name__") (q : Q v h)
    (hk : env.scope.kind = .function := by rfl) (hx : env.kindOf x = some .globalImplicit := by rfl) (hg : env.globals = mainGlobals := by rfl) (hb : env.builtins = builtinsNs := by rfl) (hdb : (x == ("__debug__" : Str)) = false := by decide) : W prog w c A (eval (.Name x pos) env) Q E h := by
  obtain ⟨p, loose, mg, mb, T⟩ := B.T
  exact ⟨fun n => Name_function_global (s := c.st h n) hk hx (loadGlobal_builtin (env := env) (by rw [hg]; exact T.g.keeps kp) (mg_none_of B.X T.g e) (by rw [hb]; exact T.b.keeps kp) ((T.builtins x hn).trans hv) ⟨_, _, rfl, q⟩) hdb⟩

/-- a built-in function called by its name -/
theorem w_bcall {x : Str} {xp pos : Pos} {id : String} {e : Expr} {rest : List Expr} {Q : Value → Heap → Prop} (B : Base w base) (kp : In0 base h) (hm : nsIn (KF w.params) mainGlobals x = some none) (hv : bootBuiltins x = some (.builtin id)) (hn : x ≠ "__name__")
    (y : W prog w c A (spliced (backTo pos (starEach (e :: rest) env))) (fun vs h₁ => W prog w c A (call (.builtin id) vs) Q E h₁) E h)
    (hk : env.scope.kind = .function := by rfl) (hx : env.kindOf x = some .globalImplicit := by rfl) (hg : env.globals = mainGlobals := by rfl) (hb : env.builtins = builtinsNs := by rfl) (hdb : (x == ("__debug__" : Str)) = false := by decide)
    (hc : eval (.Call (.Name x xp) (e :: rest) [] pos) env = (do callWith pos (← eval (.Name x xp) env) [] (backTo pos (starEach (e :: rest) env)) (backToKw pos (keywordEach [] env))) := by rfl)
    (he : starEach (e :: rest) env = (false, eval e env) :: starEach rest env := by rfl) (hplain : (backTo pos (starEach rest env)).any (·.1) = false := by rfl) :
    W prog w c A (eval (.Call (.Name x xp) (e :: rest) [] pos) env) Q E h :=
  ⟨fun n => Call_ ((w_blt (Q := fun v h' => v = .builtin id ∧ h' = h) B kp hm hv hn ⟨rfl, rfl⟩ hk hx hg hb hdb).go fun v h' n' q => by
    obtain ⟨rfl, rfl⟩ := q
    exact PyProof.Rows.callWith_builtin1 (y.go fun vs h₁ n₁ q => q.out n₁) he hplain) hc⟩
theorem w_tcall {x : Str} {xp pos : Pos} {id : String} {e : Expr} {rest : List Expr} {Q : Value → Heap → Prop} (B : Base w base) (kp : In0 base h) (hm : nsIn (KF w.params) mainGlobals x = some none) (hv : bootBuiltins x = some (.type id)) (hn : x ≠ "__name__")
    (y : W prog w c A (spliced (backTo pos (starEach (e :: rest) env))) (fun vs h₁ => W prog w c A (call (.type id) vs) Q E h₁) E h)
    (hk : env.scope.kind = .function := by rfl) (hx : env.kindOf x = some .globalImplicit := by rfl) (hg : env.globals = mainGlobals := by rfl) (hb : env.builtins = builtinsNs := by rfl) (hdb : (x == ("__debug__" : Str)) = false := by decide)
    (hc : eval (.Call (.Name x xp) (e :: rest) [] pos) env = (do callWith pos (← eval (.Name x xp) env) [] (backTo pos (starEach (e :: rest) env)) (backToKw pos (keywordEach [] env))) := by rfl)
    (he : starEach (e :: rest) env = (false, eval e env) :: starEach rest env := by rfl) (hplain : (backTo pos (starEach rest env)).any (·.1) = false := by rfl) :
    W prog w c A (eval (.Call (.Name x xp) (e :: rest) [] pos) env) Q E h :=
  ⟨fun n => Call_ ((w_blt (Q := fun v h' => v = .type id ∧ h' = h) B kp hm hv hn ⟨rfl, rfl⟩ hk hx hg hb hdb).go fun v h' n' q => by
    obtain ⟨rfl, rfl⟩ := q
    exact PyProof.Rows.callWith_type1 (y.go fun vs h₁ n₁ q => q.out n₁) he hplain) hc⟩
/-- a def of the text called by its name -/
theorem w_fcall {x : Str} {xp pos : Pos} {f : Addr} {e : Expr} {rest : List Expr} {Q : Value → Heap → Prop} (B : Base w base) (kp : In0 base h) (hm : nsIn (KF w.params) mainGlobals x = some (some (.ref f))) (hf : keepIn (KF w.params) (.ref f) = true)
    (y : W prog w c A (spliced (backTo pos (starEach (e :: rest) env))) (fun vs h₁ => In0 base h₁ ∧ C prog w c A (.call (.ref f) ⟨vs, []⟩) (Back Q E) h₁) E h)
    (hk : env.scope.kind = .function := by rfl) (hx : env.kindOf x = some .globalImplicit := by rfl) (hg : env.globals = mainGlobals := by rfl) (hdb : (x == ("__debug__" : Str)) = false := by decide)
    (hc : eval (.Call (.Name x xp) (e :: rest) [] pos) env = (do callWith pos (← eval (.Name x xp) env) [] (backTo pos (starEach (e :: rest) env)) (backToKw pos (keywordEach [] env))) := by rfl)
    (he : starEach (e :: rest) env = (false, eval e env) :: starEach rest env := by rfl) (hplain : (backTo pos (starEach rest env)).any (·.1) = false := by rfl) :
    W prog w c A (eval (.Call (.Name x xp) (e :: rest) [] pos) env) Q E h :=
  ⟨fun n => Call_ ((w_glob (Q := fun v h' => v = .ref f ∧ h' = h) B kp hm ⟨rfl, rfl⟩ hk hx hg hdb).go fun v h' n' q => by
    obtain ⟨rfl, rfl⟩ := q
    exact callWith_K (K := KF w.params) (B.In kp) hf (y.go fun vs h₁ n₁ q => ⟨B.In q.1, (w_call q.2).out n₁⟩) he hplain) hc⟩

/-- len of an own object -/
theorem w_lenO {m : Str → Option Value} {L x C d f : Addr} {l : List (Str × Value)} {Q : Value → Heap → Prop} (B : Base w base) (F : Fr base L h m) (I : Inst h x C d l) (hs : findIn (KF w.params) (.ref C) "__len__" = some (some (.ref f))) (hf : isFn (KF w.params) (.ref f) = true)
    (y : Mine.C prog w c A.in1 (.call (.ref f) ⟨[.ref x], []⟩) (fun r h' => ∃ k : Nat, ∃ t, r = .ok (.ret (.int k t)) ∧ k ≤ 100000 ∧ ∀ t, Q (.int k t) h') h) : W prog w c A (call (.builtin "len") [.ref x]) Q E h := by
  obtain ⟨es, n, I', _⟩ := I.at_
  refine ⟨fun n => PySem.W.len_K (s := c.st h n) F B.X I' hs hf (wpAny_call (codeAny_mono (y.out n) fun r s' z => ?_))⟩
  obtain ⟨h', n', rfl, k, t, rfl, hk, q⟩ := z
  dsimp only
  unfold PySem.W.LenBack
  dsimp only
  exact ⟨⟨by omega, by omega⟩, h', _, rfl, q _⟩
end
end Mine
end

section
open PySem PySem.W PyProof.Rows PySem.Calls
namespace Mine
theorem paired_cons {α β : Type} {F : α → β → Prop} {a : α} {l : List α} {ys : List β} (p : Paired F (a :: l) ys) : ∃ b r, ys = b :: r ∧ F a b ∧ Paired F l r := by
  cases p with | cons f t => exact ⟨_, _, rfl, f, t⟩
theorem paired_nil {α β : Type} {F : α → β → Prop} {ys : List β} (p : Paired F [] ys) : ys = [] := by cases p; rfl
theorem paired4 {α β : Type} {F : α → β → Prop} {a b c d : α} {ys : List β} (p : Paired F [a, b, c, d] ys) : ∃ v1 v2 v3 v4, ys = [v1, v2, v3, v4] ∧ F a v1 ∧ F b v2 ∧ F c v3 ∧ F d v4 := by
  obtain ⟨v1, r1, rfl, f1, p1⟩ := paired_cons p
  obtain ⟨v2, r2, rfl, f2, p2⟩ := paired_cons p1
  obtain ⟨v3, r3, rfl, f3, p3⟩ := paired_cons p2
  obtain ⟨v4, r4, rfl, f4, p4⟩ := paired_cons p3
  rw [paired_nil p4]
  exact ⟨v1, v2, v3, v4, rfl, f1, f2, f3, f4⟩
theorem length4 {α : Type} {l : List α} (h : l.length = 4) : ∃ a b c d, l = [a, b, c, d] := by
  cases l with
  | nil => cases h
  | cons a l => cases l with
    | nil => cases h
    | cons b l => cases l with
      | nil => cases h
      | cons c l => cases l with
        | nil => cases h
        | cons d l => cases l with
          | nil => exact ⟨a, b, c, d, rfl⟩
          | cons e l => simp at h

section
variable {prog : Program} {w : World} {c : Cx} {A : Around} {E : Value → Heap → Prop} {base h : Heap} {env : Env}

/-- a comprehension's turns, whatever its frame -/
theorem c_compLoop {elt iter : Expr} {x : Str} {px : Pos} {ifs : List Expr} {scope : Scope} {pos : Pos} {I D : Addr} {fp wr : List Addr} {n : Nat} {P : Nat → Value → Prop} {St : Nat → Heap → Prop} {cenv : Env} {R : Result → Heap → Prop}
    (Wk : Walks prog w A I fp wr n P St) (hn : n ≤ 100000) (hDf : D ∉ fp) (Inv : Nat → List Value → Heap → Prop) (st : St 0 h) (i0 : Inv 0 [] h) (pD : PL h D [])
    (hst : ∀ i ys h h', Inv i ys h → Kept (D :: wr) h h' → Inv i ys h')
    (turn : ∀ i ys v h, i < n → ys.length ≤ i → P i v → Inv i ys h → PL h D ys → W prog w c A (storeName cenv x v) (fun _ h₂ => W prog w c A (testsOf ifs cenv) (fun ok h₃ =>
      if ok = true then W prog w c A (eval elt cenv) (fun u h₄ => Inv (i + 1) (ys ++ [u]) h₄ ∧ ∃ S, Kept S h h₄ ∧ D ∉ S ∧ ∀ b ∈ fp, b ∉ S) NoE h₃
      else Inv (i + 1) ys h₃ ∧ ∃ S, Kept S h h₃ ∧ D ∉ S ∧ ∀ b ∈ fp, b ∉ S) NoE h₂) NoE h)
    (fin : ∀ ys h, Inv n ys h → PL h D ys → R (.ok .next) h) :
    C prog w c A (.compLoop (.ListComp elt [⟨.Name x px, iter, ifs, 0⟩] scope pos) 0 (.ref I) (.ref D) cenv) R h := by
  refine ⟨fun n₀ => codeAny_compLoop_tests (fun k s => ∃ i ys hh tk, s = c.st hh tk ∧ k = n - i ∧ i ≤ n ∧ ys.length ≤ i ∧ St i hh ∧ Inv i ys hh ∧ PL hh D ys) ?_ (n - 0) ⟨0, [], h, n₀, rfl, rfl, Nat.zero_le _, Nat.le_refl _, st, i0, pD⟩⟩
  rintro k s ⟨i, ys, hh, tk, rfl, rfl, hi, hyi, st, inv, pD⟩
  have hDw : D ∉ wr := fun m => hDf (Wk.sub _ m)
  by_cases hlt : i < n
  · refine Wk.item i _ _ _ hlt st fun v h₁ tk₁ hp st₁ hk₁ => ?_
    have k₁ : Kept wr hh h₁ := fun b o e n => hk₁ b o n e
    have inv₁ := hst _ _ _ _ inv (k₁.mono fun a ha => List.mem_cons_of_mem _ ha)
    have pD₁ := pD.kept k₁ hDw
    refine noted_false (c := c) ((W.go (c := c) (n := tk₁) ⟨fun n' => wpAny_assign_Name ((turn i ys v h₁ hlt hyi hp inv₁ pD₁).out n')⟩ fun _ h₂ n₂ q => noted_false (c := c) (q.go fun ok h₃ n₃ q => ?_)))
    cases ok with
    | false =>
      simp only [Bool.false_eq_true, if_false] at q ⊢
      obtain ⟨inv₃, S, k₃, nD, nf⟩ := q
      exact ⟨n - (i + 1), by omega, i + 1, ys, h₃, n₃, rfl, rfl, hlt, by omega, Wk.frame _ _ _ st₁ (fun b hb o e => k₃ b o e (nf b hb)), inv₃, pD₁.kept k₃ nD⟩
    | true =>
      simp only [if_true] at q ⊢
      refine noted_false (c := c) (W.go q fun u h₄ n₄ q => ?_)
      obtain ⟨inv₄, S, k₄, nD, nf⟩ := q
      have pD₄ := pD₁.kept k₄ nD
      obtain ⟨m, e⟩ := pD₄
      refine wpAny_list_append_plain (s := c.st h₄ n₄) (hsz := by rw [sizeLine_eq]; simp; omega) ⟨m, e⟩ fun h₅ hl₅ hs₅ => ?_
      have k₅ : Kept [D] h₄ h₅ := Kept.of_sb hs₅
      refine ⟨n - (i + 1), by omega, i + 1, ys ++ [u], h₅, n₄, rfl, rfl, hlt, by simp; omega, Wk.frame _ _ _ st₁ (fun b hb o e => k₅ b o (k₄ b o e (nf b hb)) (by simp; rintro rfl; exact hDf hb)), hst _ _ _ _ inv₄ (k₅.mono (by simp)), ?_⟩
      obtain ⟨m', e'⟩ := hl₅
      exact ⟨m', by simpa using e'⟩
  · have : i = n := by omega
    subst this
    refine Wk.done _ _ _ st fun h₁ tk₁ hk₁ => ?_
    have k₁ : Kept wr hh h₁ := fun b o e n => hk₁ b o n e
    exact ⟨h₁, tk₁, rfl, fin ys h₁ (hst _ _ _ _ inv (k₁.mono fun a ha => List.mem_cons_of_mem _ ha)) (pD.kept k₁ hDw)⟩

/-- a list comprehension of one clause, what its items are hanging on the heap; no cell of its own -/
theorem w_LCG {elt iter : Expr} {x : Str} {px : Pos} {ifs : List Expr} {scope : Scope} {pos : Pos} {Q : Value → Heap → Prop} (cl : List (Str × Addr)) (p : Value → Bool) (G : Value → Value → Addr → Heap → Prop) (hh : A.handled = none)
    (stab : ∀ v u lo h h' S, G v u lo h → Kept S h h' → (∀ a ∈ S, a < lo) → G v u lo h')
    (hclos : closureFor scope env = pure cl) (hcell : ∀ y ∈ scope.names, y.2 ≠ .cell) (hkind : scope.kind = .function)
    (hnames : ∀ y ∈ scope.names, y.2 = .local → scope.names.lookup y.1 = some .local) (hx : scope.names.lookup x = some .local)
    (y : W prog w c A (eval iter env) (fun xv h₁ => ∃ l vs, xv = .ref l ∧ (PL h₁ l vs ∨ PT h₁ l vs) ∧ vs.length ≤ 100000 ∧
      (∀ C v h₃ m₃, h₁.objs.size ≤ C → v ∈ vs → h₃.Ns C m₃ → m₃ x = some v → Kept [] h₁ h₃ → W prog w c A (testsOf ifs (compEnvC scope cl C env)) (fun ok h₄ => ok = p v ∧ Kept [] h₃ h₄) NoE h₃) ∧
      (∀ C v h₃ m₃, h₁.objs.size ≤ C → v ∈ vs → p v = true → h₃.Ns C m₃ → m₃ x = some v → Kept [] h₁ h₃ → W prog w c A (eval elt (compEnvC scope cl C env)) (fun u h₄ => G v u h₃.objs.size h₄ ∧ Kept [] h₃ h₄) NoE h₃) ∧
      (∀ D h' ys, h₁.get? D = none → PL h' D ys → Paired (fun v u => ∃ lo, h₁.objs.size ≤ lo ∧ G v u lo h') (vs.filter p) ys → Kept [] h₁ h' → Q (.ref D) h')) E h)
    (hs : ∀ x, foldedSetIterable iter env x = pure x := by intro _; rfl) :
    W prog w c A (eval (.ListComp elt [⟨.Name x px, iter, ifs, 0⟩] scope pos) env) Q E h := by
  refine ⟨fun n₀ => ?_⟩
  rw [eval_ListComp]
  refine wpAny_comprehension_free (use := none) rfl hs hclos hkind hnames (y.go fun xv h₁ n₁ q => ?_)
  obtain ⟨l, vs, rfl, pl, hl, ht, he, q⟩ := q
  have key : ∀ (St : Nat → Heap → Prop) (h₂ : Heap) (n₂ : Nat), Kept [] h₁ h₂ → Walks prog w A h₁.objs.size [h₁.objs.size, l] [h₁.objs.size] vs.length (fun i v => vs[i]? = some v) St → St 0 h₂ → h₁.objs.size < h₂.objs.size → l < h₁.objs.size →
      wpAny (model prog w) A (newList []) (fun acc s₃ => wpAny (model prog w) A (newFunctionEnv scope env.globals cl [] env.qual none .none (some env)) (fun cenv s₄ =>
        codeAny (model prog w) A (.compStart (.ListComp elt [⟨.Name x px, iter, ifs, 0⟩] scope pos) 0 (.ref h₁.objs.size) acc { cenv with scope := relabel scope env }) (compPost (model prog w) A (fun e s' => ∃ h' n', s' = c.st h' n' ∧ E e h') none (fun a s' => ∃ h' n', s' = c.st h' n' ∧ Q a h') acc cenv.locals) s₄)
        (fun e s' => ∃ h' n', s' = c.st h' n' ∧ E e h') s₃) (fun e s' => ∃ h' n', s' = c.st h' n' ∧ E e h') (c.st h₂ n₂) := by
    intro St h₂ n₂ k₂ Wk st lt lt'
    refine wpAny_newObj_type (wpAny_newFunctionEnv hcell (by intro y hy; simp at hy) (fun h₃ hns hsb => ?_) hkind)
    dsimp only at hns hsb ⊢
    generalize hH2 : h₂.push { cls := .type "list", dict := none, data := .seq ([] : List Value).toArray } = H2 at hns hsb ⊢
    have hC : H2.objs.size = h₂.objs.size + 1 := by rw [← hH2, Heap.size_push]
    have hDC : h₂.objs.size ≠ H2.objs.size := by rw [hC]; exact Nat.ne_of_lt (Nat.lt_succ_self _)
    have k23 : Kept [] h₂ h₃ := fun b o e _ => hsb.extBut b o (by rw [hC]; exact Nat.ne_of_lt (Nat.lt_succ_of_lt (Heap.lt_size e))) (Heap.get?_push_of_some _ (hH2 ▸ Heap.get?_push_of_some _ e))
    have pD : PL h₃ h₂.objs.size [] := ⟨0, hsb.extBut _ _ hDC (Heap.get?_push_of_some _ (hH2 ▸ Heap.get?_push_size _ rfl))⟩
    have k13 : Kept [] h₁ h₃ := k₂.trans k23
    have fr : ∀ a, h₁.objs.size ≤ a → h₁.get? a = none := fun a ha => by
      cases e : h₁.get? a with
      | none => rfl
      | some o => exact absurd (Heap.lt_size e) (Nat.not_lt.mpr ha)
    have hCge : h₁.objs.size ≤ H2.objs.size := by rw [hC]; exact Nat.le_of_lt (Nat.lt_succ_of_lt lt)
    -- what may change: the iterator, the frame, the list
    let S := [h₁.objs.size, H2.objs.size, h₂.objs.size]
    have fS : ∀ {h'}, Kept S h₃ h' → Kept [] h₁ h' := fun k => Kept.drop (S := []) (k13.nil.trans k) (fun a ha => by
      simp only [S, List.mem_cons, List.not_mem_nil, or_false] at ha
      rcases ha with rfl | rfl | rfl
      · exact fr _ (Nat.le_refl _)
      · exact fr _ hCge
      · exact fr _ (Nat.le_of_lt lt))
    have hDf : h₂.objs.size ∉ [h₁.objs.size, l] := by
      simp only [List.mem_cons, List.not_mem_nil, or_false, not_or]
      exact ⟨Nat.ne_of_gt lt, Nat.ne_of_gt (Nat.lt_trans lt' lt)⟩
    have hCf : H2.objs.size ∉ [h₁.objs.size, l] := by
      simp only [List.mem_cons, List.not_mem_nil, or_false, not_or]; rw [hC]
      exact ⟨Nat.ne_of_gt (Nat.lt_succ_of_lt lt), Nat.ne_of_gt (Nat.lt_succ_of_lt (Nat.lt_trans lt' lt))⟩
    have loop : ∀ n₃, codeAny (model prog w) A (.compLoop (.ListComp elt [⟨.Name x px, iter, ifs, 0⟩] scope pos) 0 (.ref h₁.objs.size) (.ref h₂.objs.size) (compEnvC scope cl H2.objs.size env))
        (compPost (model prog w) A (fun e s' => ∃ h' n', s' = c.st h' n' ∧ E e h') none (fun a s' => ∃ h' n', s' = c.st h' n' ∧ Q a h') (.ref h₂.objs.size) H2.objs.size) (c.st h₃ n₃) := by
      intro n₃
      refine codeAny_mono ((c_compLoop (c := c) (cenv := compEnvC scope cl H2.objs.size env) (iter := iter) (elt := elt) (x := x) (px := px) (ifs := ifs) (scope := scope) (pos := pos) (R := fun r h' => r = .ok .next ∧ (∃ m, h'.Ns H2.objs.size m) ∧ ∀ h'', Kept [H2.objs.size] h' h'' → Q (.ref h₂.objs.size) h'') Wk hl hDf
        (fun i ys h' => Kept S h₃ h' ∧ (∃ m, h'.Ns H2.objs.size m) ∧ (∀ a ∈ S, a < h'.objs.size) ∧ Paired (fun v u => ∃ lo, h₁.objs.size ≤ lo ∧ (∀ a ∈ S, a < lo) ∧ G v u lo h') ((vs.take i).filter p) ys)
        (Wk.frame _ _ _ st fun b _ o e => k23.all b o e) ⟨Kept.refl _ _, ⟨_, hns⟩, ?_, by simpa using Paired.nil⟩ pD ?_ ?_ ?_).out n₃) fun r s' z => ?_
      · intro a ha
        have hCs : H2.objs.size < h₃.objs.size := by obtain ⟨o, _, _, e, _⟩ := hns; exact Heap.lt_size e
        simp only [S, List.mem_cons, List.not_mem_nil, or_false] at ha
        rcases ha with rfl | rfl | rfl
        · exact Nat.lt_trans (by rw [hC]; exact Nat.lt_succ_of_lt lt) hCs
        · exact hCs
        · exact Nat.lt_trans (by rw [hC]; exact Nat.lt_succ_self _) hCs
      · rintro i ys h' h'' ⟨a, ⟨m, b⟩, sz, d⟩ k
        have hCn : H2.objs.size ∉ h₂.objs.size :: [h₁.objs.size] := by
          simp only [List.mem_cons, List.not_mem_nil, or_false, not_or]; rw [hC]
          exact ⟨Nat.ne_of_gt (Nat.lt_succ_self _), Nat.ne_of_gt (Nat.lt_succ_of_lt lt)⟩
        have kS : Kept S h' h'' := k.mono (by intro a ha; simp only [S, List.mem_cons, List.not_mem_nil, or_false] at ha ⊢; rcases ha with rfl | rfl <;> simp)
        refine ⟨a.trans kS, ⟨m, ?_⟩, ?_, ?_⟩
        · obtain ⟨o, es, ep, e, r⟩ := b; exact ⟨o, es, ep, k _ _ e hCn, r⟩
        · intro z hz
          obtain ⟨o, es, ep, e, r⟩ := b
          have h3 := Heap.lt_size (k _ _ e hCn)
          simp only [S, List.mem_cons, List.not_mem_nil, or_false] at hz
          rcases hz with rfl | rfl | rfl
          · exact Nat.lt_trans (by rw [hC]; exact Nat.lt_succ_of_lt lt) h3
          · exact h3
          · exact Nat.lt_trans (by rw [hC]; exact Nat.lt_succ_self _) h3
        · exact Paired.mono (fun _ _ ⟨lo, h1, h2, g⟩ => ⟨lo, h1, h2, stab _ _ _ _ _ _ g kS h2⟩) d
      · rintro i ys v h' hi hyi hv ⟨a, ⟨m, b⟩, sz, d⟩ pD'
        have hvm : v ∈ vs := List.mem_of_getElem? hv
        refine ⟨fun n' => wpAny_storeName_local (s := c.st h' n') (env := compEnvC scope cl H2.objs.size env) (lookup_relabel_local hx) b (fun h₄ hn₄ hs₄ => ⟨h₄, _, rfl, ?_⟩) (by simp [compEnvC, relabel, hkind])⟩
        have k4 : Kept [H2.objs.size] h' h₄ := Kept.of_sb hs₄
        have k4S : Kept S h' h₄ := k4.mono (by intro a ha; rw [List.mem_singleton.mp ha]; simp [S])
        have nS : ∀ {h''}, Kept [] h₄ h'' → ∃ T, Kept T h' h'' ∧ h₂.objs.size ∉ T ∧ ∀ b ∈ [h₁.objs.size, l], b ∉ T := fun k => ⟨[H2.objs.size], k4.trans k.nil, by simpa using hDC, fun b hb => by simp; rintro rfl; exact hCf hb⟩
        have step : ∀ {h'' ys'}, Kept [] h₄ h'' → Paired (fun v u => ∃ lo, h₁.objs.size ≤ lo ∧ (∀ a ∈ S, a < lo) ∧ G v u lo h'') ((vs.take (i + 1)).filter p) ys' →
            Kept S h₃ h'' ∧ (∃ m, h''.Ns H2.objs.size m) ∧ (∀ a ∈ S, a < h''.objs.size) ∧ Paired (fun v u => ∃ lo, h₁.objs.size ≤ lo ∧ (∀ a ∈ S, a < lo) ∧ G v u lo h'') ((vs.take (i + 1)).filter p) ys' := fun {h'' ys'} k d' => by
          refine ⟨(a.trans k4S).trans k.nil, ⟨_, hn₄.keeps k.all⟩, ?_, d'⟩
          intro z hz
          obtain ⟨o, es, ep, e, r⟩ := hn₄
          have h3 := Heap.lt_size (k.all _ _ e)
          have : (compEnvC scope cl H2.objs.size env).locals = H2.objs.size := rfl
          rw [this] at h3
          simp only [S, List.mem_cons, List.not_mem_nil, or_false] at hz
          rcases hz with rfl | rfl | rfl
          · exact Nat.lt_trans (by rw [hC]; exact Nat.lt_succ_of_lt lt) h3
          · exact h3
          · exact Nat.lt_trans (by rw [hC]; exact Nat.lt_succ_self _) h3
        have tk : (vs.take (i + 1)).filter p = (vs.take i).filter p ++ if p v = true then [v] else [] := take_succ_filter p vs i v hv
        have lift : ∀ {h'' l₁ l₂}, Kept S h' h'' → Paired (fun v u => ∃ lo, h₁.objs.size ≤ lo ∧ (∀ a ∈ S, a < lo) ∧ G v u lo h') l₁ l₂ → Paired (fun v u => ∃ lo, h₁.objs.size ≤ lo ∧ (∀ a ∈ S, a < lo) ∧ G v u lo h'') l₁ l₂ := fun {h'' l₁ l₂} k d => Paired.mono (fun _ _ ⟨lo, h1, h2, g⟩ => ⟨lo, h1, h2, stab _ _ _ _ _ _ g k h2⟩) d
        refine (ht H2.objs.size v h₄ _ hCge hvm hn₄ (by simp) (fS (a.trans k4S))).post fun ok h₅ ⟨e, k5⟩ => ?_
        subst e
        cases hp : p v with
        | false =>
          first | refine if_no (by rfl) ?_ | simp only [Bool.false_eq_true, if_false]
          refine ⟨step k5 ?_, nS k5⟩
          rw [tk, hp]; simpa using lift (k4S.trans k5.nil) d
        | true =>
          first | refine if_yes (by rfl) ?_ | simp only [if_true]
          refine (he H2.objs.size v h₅ _ hCge hvm hp (hn₄.keeps k5.all) (by simp) (fS ((a.trans k4S).trans k5.nil))).post fun u h₆ ⟨g, k6⟩ => ?_
          refine ⟨step (k5.trans k6) ?_, nS (k5.trans k6)⟩
          rw [tk, hp]
          have sz5 : ∀ a ∈ S, a < h₅.objs.size := by
            intro z hz
            obtain ⟨o, es, ep, e, r⟩ := hn₄
            have h3 := Heap.lt_size (k5.all _ _ e)
            have : (compEnvC scope cl H2.objs.size env).locals = H2.objs.size := rfl
            rw [this] at h3
            simp only [S, List.mem_cons, List.not_mem_nil, or_false] at hz
            rcases hz with rfl | rfl | rfl
            · exact Nat.lt_trans (by rw [hC]; exact Nat.lt_succ_of_lt lt) h3
            · exact h3
            · exact Nat.lt_trans (by rw [hC]; exact Nat.lt_succ_self _) h3
          exact Paired.snoc (lift ((k4S.trans k5.nil).trans k6.nil) d) ⟨h₅.objs.size, Nat.le_of_lt (sz5 _ (by simp [S])), sz5, g⟩
      · rintro ys h' ⟨a, b, sz, d⟩ pD'
        refine ⟨rfl, b, fun h'' k => q _ _ ys (fr _ (Nat.le_of_lt lt)) (pD'.kept k (by simpa using hDC)) ?_ (fS (a.trans (k.mono (by simp [S]))))⟩
        rw [List.take_length] at d
        exact Paired.mono (fun _ _ ⟨lo, h1, h2, g⟩ => ⟨lo, h1, stab _ _ _ _ _ _ g k (fun z hz => by rw [List.mem_singleton.mp hz]; exact h2 _ (by simp [S]))⟩) d
      · obtain ⟨h', n', rfl, rfl, ⟨m, hm⟩, q⟩ := z
        exact ⟨m, hm, fun h'' hs'' => ⟨h'', n', rfl, q h'' (Kept.of_sb hs'')⟩⟩
    exact codeAny_compStart_list (loop _) (Wk.self 0 _ _ _ (Wk.frame _ _ _ st fun b _ o e => k23.all b o e) (loop _))
  rcases pl with pl | pl
  · refine (w_iterL (c := c) (A := A) (E := E) pl (Q := fun it h₂ => it = .ref h₁.objs.size ∧ Kept [] h₁ h₂ ∧ h₂.IsListIter h₁.objs.size l 0 ∧ h₁.objs.size < h₂.objs.size) fun h₂ a b d => ⟨rfl, a, b, d⟩).go fun it h₂ n₂ ⟨e, k₂, ii, lt⟩ => ?_
    subst e
    have Wk := Walks.list (prog := prog) (w := w) hh h₁.objs.size l (Nat.ne_of_lt pl.lt) vs.toArray
    have e1 : (fun (i : Nat) (v : Value) => vs.toArray[i]? = some v) = fun i v => vs[i]? = some v := by funext i v; simp
    rw [e1, List.size_toArray] at Wk
    exact key _ h₂ n₂ k₂ Wk ⟨ii, (pl.kept k₂ (by simp)).isList⟩ lt pl.lt
  · refine (w_iterT (c := c) (A := A) (E := E) pl (Q := fun it h₂ => it = .ref h₁.objs.size ∧ Kept [] h₁ h₂ ∧ h₂.IsTupleIter h₁.objs.size l 0 ∧ h₁.objs.size < h₂.objs.size) fun h₂ a b d => ⟨rfl, a, b, d⟩).go fun it h₂ n₂ ⟨e, k₂, ii, lt⟩ => ?_
    subst e
    have Wk := Walks.tuple (prog := prog) (w := w) hh h₁.objs.size l (Nat.ne_of_lt pl.lt) vs.toArray
    have e1 : (fun (i : Nat) (v : Value) => vs.toArray[i]? = some v) = fun i v => vs[i]? = some v := by funext i v; simp
    rw [e1, List.size_toArray] at Wk
    exact key _ h₂ n₂ k₂ Wk ⟨ii, (pl.kept k₂ (by simp)).isTuple⟩ lt pl.lt
end
end Mine
end

section
open PySem PySem.W PyProof.Rows PySem.Calls
namespace Mine
section
variable {prog : Program} {w : World} {c : Cx} {A : Around} {E : Value → Heap → Prop} {base h : Heap} {env : Env} {a b : Int} {t u : Tok} {Q : Value → Heap → Prop}
theorem w_gt (q : Q (.bool (decide (a > b))) h) : W prog w c A (compareOp .Gt (.int a t) (.int b u)) Q E h := ⟨fun n => gt_int ⟨_, _, rfl, q⟩⟩
theorem w_lt (q : Q (.bool (decide (a < b))) h) : W prog w c A (compareOp .Lt (.int a t) (.int b u)) Q E h := ⟨fun n => lt_int ⟨_, _, rfl, q⟩⟩
theorem w_eq (q : Q (.bool (a == b)) h) : W prog w c A (compareOp .Eq (.int a t) (.int b u)) Q E h := ⟨fun n => eq_int ⟨_, _, rfl, q⟩⟩
theorem w_ne (q : Q (.bool (a != b)) h) : W prog w c A (compareOp .NotEq (.int a t) (.int b u)) Q E h := ⟨fun n => ne_int ⟨_, _, rfl, q⟩⟩
theorem w_mul (hm : -1000000 ≤ a ∧ a ≤ 1000000) (q : ∀ t, Q (.int (a * b) t) h) : W prog w c A (binaryOp .Mult (.int a t) (.int b u)) Q E h :=
  ⟨fun n => PyProof.Rows.mul_int ⟨_, _, rfl, q _⟩ (IntMulOk.of_left (intBits_le_64 (by omega) (by omega)))⟩
theorem w_div (hb : 0 < b) (hb' : b ≤ 1000000) (q : ∀ t, Q (.int (a / b) t) h) : W prog w c A (binaryOp .FloorDiv (.int a t) (.int b u)) Q E h :=
  ⟨fun n => floordiv_int (by omega) ⟨_, _, rfl, by rw [Int.fdiv_eq_ediv_of_nonneg _ (by omega)]; exact q _⟩ (.inl (PyProof.noPylong_small (by omega)))⟩
theorem w_mod (hb : 0 < b) (q : ∀ t, Q (.int (a % b) t) h) : W prog w c A (binaryOp .Mod (.int a t) (.int b u)) Q E h :=
  ⟨fun n => PyProof.Rows.mod_int (by omega) ⟨_, _, rfl, by rw [Int.fmod_eq_emod_of_nonneg _ (by omega)]; exact q _⟩⟩
theorem w_isNone {v : Value} (q : Q (.bool (v == .none)) h) : W prog w c A (compareOp .Is v .none) Q E h := ⟨fun n => is_none ⟨_, _, rfl, q⟩⟩
theorem w_isNotNone {v : Value} (q : Q (.bool (!(v == .none))) h) : W prog w c A (compareOp .IsNot v .none) Q E h := ⟨fun n => isNot_none ⟨_, _, rfl, q⟩⟩
theorem w_titem {value slice : Expr} {x : Addr} {vs : List Value} {k : Int} {j : Nat} {v : Value} (p : PT h x vs) (hk : k = j) (hl : vs.length ≤ 100000) (hx : vs[j]? = some v) (q : Q v h)
    (hs : subscripted slice false (.ref x) (.int k t) = operate [.ref x, .int k t] (getItem (.ref x) (.int k t)) := by with_unfolding_all rfl) : W prog w c A (subscriptTail value slice (.ref x) (.int k t)) Q E h := by
  have hj : j < vs.length := (List.getElem?_eq_some_iff.mp hx).1
  refine ⟨fun n => item_tupleT (s := c.st h n) (l := vs) (j := j) p.isTuple (by omega) (by omega) ?_ hx ⟨_, _, rfl, q⟩ hs⟩
  subst hk
  unfold seqIndex?
  have e : ¬ ((j : Int) < 0) := by omega
  first | refine if_no (by first | rfl | simp only [e]) ?_ | simp only [e, if_false]
  rw [if_pos (by simp; omega)]
  simp
theorem w_litem {value slice : Expr} {x : Addr} {vs : List Value} {k : Int} {j : Nat} {v : Value} (p : PL h x vs) (hk : k = j) (hl : vs.length ≤ 100000) (hx : vs[j]? = some v) (q : Q v h)
    (hs : subscripted slice false (.ref x) (.int k t) = operate [.ref x, .int k t] (getItem (.ref x) (.int k t)) := by with_unfolding_all rfl) : W prog w c A (subscriptTail value slice (.ref x) (.int k t)) Q E h := by
  have hj : j < vs.length := (List.getElem?_eq_some_iff.mp hx).1
  subst hk
  exact ⟨fun n => tail_any (s := c.st h n) (PL.type p) slot_list_getitem.lookup (wpAny_getItem_list (s := c.st h n) p.isList (by omega) (by omega) (by simpa using hx) ⟨_, _, rfl, q⟩) hs⟩
end
end Mine
end

section
open PySem PySem.W PyProof.Rows PySem.Calls
namespace Mine
structure It where
  k : Int
  v : Option Int
  z : Int

structure CI where
  it : It
  kt : Tok
  vt : Tok
  zt : Tok
def CI.keyV (c : CI) : Value := .int c.it.k c.kt
def CI.valV (c : CI) : Value := match c.it.v with | none => .none | some i => .int i c.vt
def CI.sizV (c : CI) : Value := .int c.it.z c.zt
def Val (x : Value) (o : Option Int) : Prop := match o with | none => x = .none | some i => ∃ t, x = .int i t

structure RA where
  x : Addr
  d : Addr
  ka : Addr
  va : Addr
  sa : Addr
def RA.all (ρ : RA) : List Addr := [ρ.x, ρ.d, ρ.ka, ρ.va, ρ.sa]

def total (l : List It) : Int := (l.map (·.z)).sum
def hasK (l : List It) (k : Int) : Bool := l.any fun i => i.k = k
def findK (l : List It) (k : Int) : Option It := l.find? fun i => i.k = k
def dropK (l : List It) (k : Int) : List It := l.filter fun i => decide (i.k ≠ k)
def keysNd (l : List It) : Prop := (l.map (·.k)).Nodup

abbrev rowAttrs (ρ : RA) (tot : Int) (t : Tok) : List (Str × Value) := [("keys", .ref ρ.ka), ("values", .ref ρ.va), ("sizes", .ref ρ.sa), ("total", .int tot t)]
structure RowRaw (prog : Program) (w : World) (h : Heap) (ρ : RA) (ks : List Value) (vv zz : List (Int × Value)) (tot : Int) : Prop where
  nd : ρ.all.Nodup
  lo : ∀ a ∈ ρ.all, 350 ≤ a
  inst : ∃ t, Inst h ρ.x 110 ρ.d (rowAttrs ρ tot t)
  keys : PL h ρ.ka ks
  vals : DI prog w h ρ.va vv
  sizs : DI prog w h ρ.sa zz

section
variable {prog : Program} {w : World} {h h' : Heap} {ρ : RA} {ks ks' : List Value} {vv zz vv' zz' : List (Int × Value)} {tot tot' : Int}
theorem Inst.lt {h : Heap} {x C d : Addr} {l : List (Str × Value)} (I : Inst h x C d l) : x < h.objs.size ∧ d < h.objs.size := by
  obtain ⟨_, _, e, f, _⟩ := I; exact ⟨Heap.lt_size e, Heap.lt_size f⟩
theorem RowRaw.kept {S : List Addr} (r : RowRaw prog w h ρ ks vv zz tot) (k : Kept S h h') (hS : ∀ a ∈ ρ.all, a ∉ S) : RowRaw prog w h' ρ ks vv zz tot := by
  obtain ⟨nd, lo, ⟨t, I⟩, a, b, c⟩ := r
  refine ⟨nd, lo, ⟨t, I.kept k (hS _ (by simp [RA.all])) (hS _ (by simp [RA.all]))⟩, a.kept k (hS _ (by simp [RA.all])), b.kept k (hS _ (by simp [RA.all])), c.kept k (hS _ (by simp [RA.all]))⟩
theorem RowRaw.lt (r : RowRaw prog w h ρ ks vv zz tot) : ∀ a ∈ ρ.all, a < h.objs.size := by
  obtain ⟨nd, lo, ⟨t, I⟩, a, b, c⟩ := r
  intro y hy
  simp only [RA.all, List.mem_cons, List.not_mem_nil, or_false] at hy
  rcases hy with rfl | rfl | rfl | rfl | rfl
  · exact I.lt.1
  · exact I.lt.2
  · exact a.lt
  · exact b.lt
  · exact c.lt
theorem RowRaw.setK (r : RowRaw prog w h ρ ks vv zz tot) (k : Kept [ρ.ka] h h') (p : PL h' ρ.ka ks') : RowRaw prog w h' ρ ks' vv zz tot := by
  obtain ⟨nd, lo, ⟨t, I⟩, a, b, c⟩ := r
  simp only [RA.all, List.nodup_cons, List.mem_cons, List.not_mem_nil, or_false, not_or] at nd
  refine ⟨by simp only [RA.all, List.nodup_cons, List.mem_cons, List.not_mem_nil, or_false, not_or]; exact nd, lo, ⟨t, I.kept k ?_ ?_⟩, p, b.kept k ?_, c.kept k ?_⟩ <;> simp only [List.mem_singleton] <;> first | exact nd.1.2.1 | exact nd.2.1.1 | exact Ne.symm nd.2.2.1.1 | exact Ne.symm nd.2.2.1.2
theorem RowRaw.setV (r : RowRaw prog w h ρ ks vv zz tot) (k : Kept [ρ.va] h h') (p : DI prog w h' ρ.va vv') : RowRaw prog w h' ρ ks vv' zz tot := by
  obtain ⟨nd, lo, ⟨t, I⟩, a, b, c⟩ := r
  simp only [RA.all, List.nodup_cons, List.mem_cons, List.not_mem_nil, or_false, not_or] at nd
  refine ⟨by simp only [RA.all, List.nodup_cons, List.mem_cons, List.not_mem_nil, or_false, not_or]; exact nd, lo, ⟨t, I.kept k ?_ ?_⟩, a.kept k ?_, p, c.kept k ?_⟩ <;> simp only [List.mem_singleton] <;> first | exact nd.1.2.2.1 | exact nd.2.1.2.1 | exact nd.2.2.1.1 | exact Ne.symm nd.2.2.2.1
theorem RowRaw.setS (r : RowRaw prog w h ρ ks vv zz tot) (k : Kept [ρ.sa] h h') (p : DI prog w h' ρ.sa zz') : RowRaw prog w h' ρ ks vv zz' tot := by
  obtain ⟨nd, lo, ⟨t, I⟩, a, b, c⟩ := r
  simp only [RA.all, List.nodup_cons, List.mem_cons, List.not_mem_nil, or_false, not_or] at nd
  refine ⟨by simp only [RA.all, List.nodup_cons, List.mem_cons, List.not_mem_nil, or_false, not_or]; exact nd, lo, ⟨t, I.kept k ?_ ?_⟩, a.kept k ?_, b.kept k ?_, p⟩ <;> simp only [List.mem_singleton] <;> first | exact nd.1.2.2.2 | exact nd.2.1.2.2 | exact nd.2.2.1.2 | exact nd.2.2.2.1
theorem RowRaw.setT {t : Tok} (r : RowRaw prog w h ρ ks vv zz tot) (k : Kept [ρ.d] h h') (p : Inst h' ρ.x 110 ρ.d (rowAttrs ρ tot' t)) : RowRaw prog w h' ρ ks vv zz tot' := by
  obtain ⟨nd, lo, ⟨t, I⟩, a, b, c⟩ := r
  simp only [RA.all, List.nodup_cons, List.mem_cons, List.not_mem_nil, or_false, not_or] at nd
  refine ⟨by simp only [RA.all, List.nodup_cons, List.mem_cons, List.not_mem_nil, or_false, not_or]; exact nd, lo, ⟨_, p⟩, a.kept k ?_, b.kept k ?_, c.kept k ?_⟩ <;> simp only [List.mem_singleton] <;> first | exact Ne.symm nd.2.1.1 | exact Ne.symm nd.2.1.2.1 | exact Ne.symm nd.2.1.2.2

def RowAt (prog : Program) (w : World) (h : Heap) (ρ : RA) (l : List It) : Prop :=
  ∃ cl : List CI, cl.map (·.it) = l ∧ keysNd l ∧ RowRaw prog w h ρ (cl.map CI.keyV) (cl.map fun c => (c.it.k, c.valV)) (cl.map fun c => (c.it.k, c.sizV)) (total l)
theorem RowAt.kept {S : List Addr} {l : List It} (r : RowAt prog w h ρ l) (k : Kept S h h') (hS : ∀ a ∈ ρ.all, a ∉ S) : RowAt prog w h' ρ l := by
  obtain ⟨cl, a, nd, b⟩ := r; exact ⟨cl, a, nd, b.kept k hS⟩
theorem RowAt.kept0 {l : List It} (r : RowAt prog w h ρ l) (k : Kept [] h h') : RowAt prog w h' ρ l := r.kept k (by simp)
theorem RowAt.lt {l : List It} (r : RowAt prog w h ρ l) : ∀ a ∈ ρ.all, a < h.objs.size := by obtain ⟨cl, _, _, b⟩ := r; exact b.lt
theorem RowAt.lo {l : List It} (r : RowAt prog w h ρ l) : ∀ a ∈ ρ.all, 350 ≤ a := by obtain ⟨cl, _, _, b⟩ := r; exact b.lo
theorem RowAt.inst {l : List It} (r : RowAt prog w h ρ l) : ∃ t, Inst h ρ.x 110 ρ.d (rowAttrs ρ (total l) t) := by obtain ⟨cl, _, _, b⟩ := r; exact b.inst
theorem not_mem_of_lt {S : List Addr} {n : Addr} (h : ∀ a ∈ S, a < n) : n ∉ S := fun m => Nat.lt_irrefl _ (h n m)
end


theorem any_map_key {cl : List CI} {l : List It} (e : cl.map (·.it) = l) {f : CI → Value} (k : Int) : ((cl.map fun c => (c.it.k, f c)).any fun kv => decide (kv.1 = k)) = hasK l k := by
  rw [← e, hasK, List.any_map, List.any_map]; rfl

/-- where a key stands -/
theorem findK_split {cl : List CI} {l : List It} {k : Int} {it : It} (e : cl.map (·.it) = l) (nd : keysNd l) (hf : findK l k = some it) :
    ∃ pre x post, cl = pre ++ x :: post ∧ x.it = it ∧ it.k = k ∧ (∀ y ∈ pre, y.it.k ≠ k) ∧ (∀ y ∈ post, y.it.k ≠ k) ∧ dropK l k = (pre ++ post).map (·.it) := by
  subst e
  induction cl with
  | nil => simp [findK] at hf
  | cons a r ih =>
    simp only [findK, List.map_cons, List.find?_cons] at hf
    unfold keysNd at nd
    simp only [List.map_cons, List.nodup_cons] at nd
    by_cases q : a.it.k = k
    · simp only [q, decide_true] at hf
      have e := Option.some.inj hf
      have hp : ∀ y ∈ r, y.it.k ≠ k := fun y hy z => nd.1 (by rw [q, ← z]; exact List.mem_map.mpr ⟨y.it, List.mem_map.mpr ⟨y, hy, rfl⟩, rfl⟩)
      refine ⟨[], a, r, rfl, e, by rw [← e]; exact q, by simp, hp, ?_⟩
      first | refine if_no (by first | rfl | simp only [dropK, List.map_cons, List.filter_cons, q, ne_eq, not_true_eq_false, decide_false, List.nil_append]) ?_ | simp only [dropK, List.map_cons, List.filter_cons, q, ne_eq, not_true_eq_false, decide_false, Bool.false_eq_true, if_false, List.nil_append]
      rw [List.filter_eq_self]
      intro i hi
      obtain ⟨y, hy, rfl⟩ := List.mem_map.mp hi
      simpa using hp y hy
    · have qf : decide (a.it.k = k) = false := by simp [q]
      simp only [qf] at hf
      obtain ⟨pre, x, post, h1, h2, h3, h4, h5, h6⟩ := ih nd.2 hf
      refine ⟨a :: pre, x, post, by rw [h1]; rfl, h2, h3, ?_, h5, ?_⟩
      · intro y hy
        rcases List.mem_cons.mp hy with rfl | hy
        · exact q
        · exact h4 y hy
      · first | refine if_yes (by first | rfl | simp only [dropK, List.map_cons, List.filter_cons, ne_eq, q, not_false_eq_true, decide_true, List.cons_append]) ?_ | simp only [dropK, List.map_cons, List.filter_cons, ne_eq, q, not_false_eq_true, decide_true, if_true, List.cons_append]
        rw [← h6]; rfl

theorem valueAt_split {pre post : List CI} {x : CI} {k : Int} (f : CI → Value) (hk : x.it.k = k) (h : ∀ y ∈ pre, y.it.k ≠ k) : valueAt ((pre ++ x :: post).map fun c => (c.it.k, f c)) k = some (f x) := by
  unfold valueAt
  rw [List.map_append, List.find?_append, List.find?_eq_none.mpr]
  · simp [hk]
  · intro a ha; obtain ⟨y, hy, rfl⟩ := List.mem_map.mp ha; simpa using h y hy
theorem without_split {pre post : List CI} {x : CI} {k : Int} (f : CI → Value) (hk : x.it.k = k) (h : ∀ y ∈ pre, y.it.k ≠ k) (h' : ∀ y ∈ post, y.it.k ≠ k) :
    without ((pre ++ x :: post).map fun c => (c.it.k, f c)) k = (pre ++ post).map fun c => (c.it.k, f c) := by
  unfold without
  rw [List.map_append, List.filter_append, List.map_append, List.map_cons, List.filter_cons]
  have e1 : ∀ l : List CI, (∀ y ∈ l, y.it.k ≠ k) → (l.map fun c => (c.it.k, f c)).filter (fun kv => decide (kv.1 ≠ k)) = l.map fun c => (c.it.k, f c) := by
    intro l hl
    rw [List.filter_eq_self]
    intro a ha; obtain ⟨y, hy, rfl⟩ := List.mem_map.mp ha; simpa using hl y hy
  rw [e1 pre h, e1 post h']
  simp [hk]
theorem total_append (l l' : List It) : total (l ++ l') = total l + total l' := by simp [total]
theorem total_cons (i : It) (l : List It) : total (i :: l) = i.z + total l := by simp [total]
theorem keysNd_sub {l l' : List It} (nd : keysNd l) (h : l'.Sublist l) : keysNd l' := List.Nodup.sublist (h.map _) nd
theorem keysNd_drop {l : List It} (nd : keysNd l) (k : Int) : keysNd (dropK l k) := keysNd_sub nd List.filter_sublist
theorem mem_one {a : Addr} {S : List Addr} (h : a ∈ S) : ∀ x ∈ [a], x ∈ S := fun x hx => by rw [List.mem_singleton.mp hx]; exact h

section
variable {prog : Program} {w : World} {c : Cx} {base h : Heap} {A : Around} {E : Value → Heap → Prop} {ρ : RA} {tot : Int} {t : Tok} {Q : Value → Heap → Prop} {expr : Bool}
theorem rg_keys (B : Base w base) (kp : In0 base h) (I : Inst h ρ.x 110 ρ.d (rowAttrs ρ tot t)) (q : Q (.ref ρ.ka) h) : W prog w c A (getAttr (.ref ρ.x) "keys" expr) Q E h :=
  w_ga B kp I rfl (by k_is) (by k_is) (by k_is) (by k_is) rfl q
theorem rg_values (B : Base w base) (kp : In0 base h) (I : Inst h ρ.x 110 ρ.d (rowAttrs ρ tot t)) (q : Q (.ref ρ.va) h) : W prog w c A (getAttr (.ref ρ.x) "values" expr) Q E h :=
  w_ga B kp I rfl (by k_is) (by k_is) (by k_is) (by k_is) rfl q
theorem rg_sizes (B : Base w base) (kp : In0 base h) (I : Inst h ρ.x 110 ρ.d (rowAttrs ρ tot t)) (q : Q (.ref ρ.sa) h) : W prog w c A (getAttr (.ref ρ.x) "sizes" expr) Q E h :=
  w_ga B kp I rfl (by k_is) (by k_is) (by k_is) (by k_is) rfl q
theorem rg_total (B : Base w base) (kp : In0 base h) (I : Inst h ρ.x 110 ρ.d (rowAttrs ρ tot t)) (q : Q (.int tot t) h) : W prog w c A (getAttr (.ref ρ.x) "total" expr) Q E h :=
  w_ga B kp I rfl (by k_is) (by k_is) (by k_is) (by k_is) rfl q
theorem rs_total {n : Int} {u : Tok} {Q : Unit → Heap → Prop} (B : Base w base) (kp : In0 base h) (nd : ρ.all.Nodup) (I : Inst h ρ.x 110 ρ.d (rowAttrs ρ tot t))
    (q : ∀ h', Inst h' ρ.x 110 ρ.d (rowAttrs ρ n u) → Kept [ρ.d] h h' → Q () h') : W prog w c A (setAttr (.ref ρ.x) "total" (.int n u)) Q E h := by
  simp only [RA.all, List.nodup_cons, List.mem_cons, List.not_mem_nil, or_false, not_or] at nd
  exact w_sa B kp I nd.1.1 (by k_is) (by k_is) (by k_is) (by k_is) (Nat.le_of_ble_eq_true rfl) fun h' I' k => q h' I' k
end

section
variable {prog : Program} {w : World} {c : Cx} {base h : Heap} {A : Around} {R : Result → Heap → Prop}
theorem RA.m1 (ρ : RA) : ρ.x ∈ ρ.all := List.mem_cons_self
theorem RA.m2 (ρ : RA) : ρ.d ∈ ρ.all := .tail _ (.head _)
theorem RA.m3 (ρ : RA) : ρ.ka ∈ ρ.all := .tail _ (.tail _ (.head _))
theorem RA.m4 (ρ : RA) : ρ.va ∈ ρ.all := .tail _ (.tail _ (.tail _ (.head _)))
theorem RA.m5 (ρ : RA) : ρ.sa ∈ ρ.all := .tail _ (.tail _ (.tail _ (.tail _ (.head _))))

theorem c_row_has {ρ : RA} {l : List It} {k : Int} {kt : Tok} (B : Base w base) (kp : In0 base h) (room : Room A 1) (r : RowAt prog w h ρ l)
    (q : ∀ h', Kept [] h h' → R (.ok (.ret (.bool (hasK l k)))) h') : C prog w c A (.call (.ref 74) ⟨[.ref ρ.x, .int k kt], []⟩) R h := by
  refine cf [("self", .ref ρ.x), ("key", .int k kt)] B kp room (by k_is) (by k_is) (fun _ _ => BindsTo.of_eq rfl) (locs rfl) (fun h₁ F k₁ => ?_)
  obtain ⟨cl, h1, nd, r₁⟩ := r.kept0 k₁
  obtain ⟨t, I⟩ := r₁.inst
  refine w_cons (w_Return (w_Cmp (w_ld F rfl (w_Attr (w_ld F rfl (rg_sizes B F.keep I ?_))))))
  refine w_din r₁.sizs (r₁.lo _ ρ.m5) ?_
  rw [any_map_key h1]
  exact q _ k₁

theorem c_row_add {ρ : RA} {l : List It} {k z : Int} {kt zt : Tok} {V : Value} {v : Option Int} (B : Base w base) (kp : In0 base h) (room : Room A 1) (r : RowAt prog w h ρ l)
    (hV : Val V v) (hk : hasK l k = false) (hlen : l.length ≤ 10000)
    (q : ∀ h', Kept ρ.all h h' → RowAt prog w h' ρ (l ++ [⟨k, v, z⟩]) → R (.ok (.ret .none)) h') :
    C prog w c A (.call (.ref 81) ⟨[.ref ρ.x, .int k kt, V, .int z zt], []⟩) R h := by
  refine cf [("self", .ref ρ.x), ("key", .int k kt), ("value", V), ("size", .int z zt)] B kp room (by k_is) (by k_is) (fun _ _ => BindsTo.of_eq rfl) (locs rfl) (fun h₁ F k₁ => ?_)
  have hL := not_mem_of_lt r.lt
  obtain ⟨cl, h1, nd, r₁⟩ := r.kept0 k₁
  obtain ⟨t, I⟩ := r₁.inst
  have hlc : cl.length = l.length := by rw [← h1]; simp
  -- self.keys.append(key)
  refine w_cons (w_Expr (w_append (w_Attr (w_ld F rfl (rg_keys B F.keep I ?_)))))
  refine ⟨_, rfl, ⟨_, r₁.keys⟩, w_ld F rfl ⟨_, r₁.keys, by simp [hlc]; omega, fun h₂ p₂ k₂ => ⟨trivial, ?_⟩⟩⟩
  have r₂ := r₁.setK k₂ p₂
  have F₂ := fk B F (k₂.mono (mem_one ρ.m3)) hL r₁.lo
  obtain ⟨t₂, I₂⟩ := r₂.inst
  -- self.values[key] = value
  refine w_cons (w_AssignSub (w_ld F₂ rfl (w_Attr (w_ld F₂ rfl (rg_values B F₂.keep I₂ ?_)))))
  refine w_ld F₂ rfl (w_dset r₂.vals (by simp [hlc]; omega) fun h₃ p₃ k₃ => ?_)
  have r₃ := r₂.setV k₃ p₃
  have F₃ := fk B F₂ (k₃.mono (mem_one ρ.m4)) hL r₁.lo
  obtain ⟨t₃, I₃⟩ := r₃.inst
  -- self.sizes[key] = size
  refine w_cons (w_AssignSub (w_ld F₃ rfl (w_Attr (w_ld F₃ rfl (rg_sizes B F₃.keep I₃ ?_)))))
  refine w_ld F₃ rfl (w_dset r₃.sizs (by simp [hlc]; omega) fun h₄ p₄ k₄ => ?_)
  have r₄ := r₃.setS k₄ p₄
  have F₄ := fk B F₃ (k₄.mono (mem_one ρ.m5)) hL r₁.lo
  obtain ⟨t₄, I₄⟩ := r₄.inst
  -- self.total = self.total + size
  refine w_cons (w_AssignAttr (w_BinOp (w_Attr (w_ld F₄ rfl (rg_total B F₄.keep I₄ ?_)))))
  refine w_ld F₄ rfl (w_add fun t₅ => w_ld F₄ rfl ?_)
  refine rs_total B F₄.keep r₄.nd I₄ fun h₅ I₅ k₅ => ?_
  have r₅ := r₄.setT (tot' := total l + z) k₅ I₅
  refine w_nil (q _ ?_ ?_)
  · exact (((k₁.nil.trans (k₂.mono (mem_one ρ.m3))).trans (k₃.mono (mem_one ρ.m4))).trans (k₄.mono (mem_one ρ.m5))).trans (k₅.mono (mem_one ρ.m2))
  · obtain ⟨vt, hvt⟩ : ∃ vt, V = (CI.mk ⟨k, v, z⟩ kt vt zt).valV := by
      cases v with
      | none => exact ⟨0, hV⟩
      | some i => obtain ⟨t, e⟩ := hV; exact ⟨t, e⟩
    refine ⟨cl ++ [⟨⟨k, v, z⟩, kt, vt, zt⟩], by simp [h1], ?_, ?_⟩
    · unfold keysNd at nd ⊢
      rw [List.map_append, List.nodup_append]
      refine ⟨nd, by simp, ?_⟩
      intro a ha b hb
      simp only [List.map_cons, List.map_nil, List.mem_singleton] at hb
      subst hb
      obtain ⟨i, hi, rfl⟩ := List.mem_map.mp ha
      have := List.any_eq_false.mp hk i hi
      simpa using this
    · have e1 : ∀ f : CI → Value, stored (cl.map fun c => (c.it.k, f c)) k (f ⟨⟨k, v, z⟩, kt, vt, zt⟩) = (cl ++ [CI.mk ⟨k, v, z⟩ kt vt zt]).map fun c => (c.it.k, f c) := by
        intro f
        unfold stored
        rw [any_map_key h1, hk]
        simp
      have e2 : total (l ++ [⟨k, v, z⟩]) = total l + z := by simp [total]
      rw [e2, ← e1 CI.valV, ← e1 CI.sizV, ← hvt, List.map_append]
      exact r₅

theorem Val_valV (x : CI) : Val x.valV x.it.v := by
  unfold Val CI.valV
  cases x.it.v with
  | none => rfl
  | some i => exact ⟨_, rfl⟩

theorem c_row_take {ρ : RA} {l : List It} {k : Int} {kt : Tok} {it : It} (B : Base w base) (kp : In0 base h) (room : Room A 1) (r : RowAt prog w h ρ l)
    (hf : findK l k = some it) (hlen : l.length ≤ 10000)
    (q : ∀ h' a V zt, Kept ρ.all h h' → RowAt prog w h' ρ (dropK l k) → h.objs.size ≤ a → PT h' a [V, .int it.z zt] → Val V it.v → R (.ok (.ret (.ref a))) h') :
    C prog w c A (.call (.ref 88) ⟨[.ref ρ.x, .int k kt], []⟩) R h := by
  refine cf [("self", .ref ρ.x), ("key", .int k kt)] B kp room (by k_is) (by k_is) (fun _ _ => BindsTo.of_eq rfl) (locs rfl) (fun h₁ F k₁ => ?_)
  have hL := not_mem_of_lt r.lt
  obtain ⟨cl, h1, nd, r₁⟩ := r.kept0 k₁
  obtain ⟨pre, x, post, hcl, hx, hik, hpre, hpost, hdrop⟩ := findK_split h1 nd hf
  have hxk : x.it.k = k := by rw [hx, hik]
  have hlc : (pre ++ x :: post).length = l.length := by rw [← hcl, ← h1]; simp
  have hsz : pre.length + (post.length + 1) ≤ 10000 := by simp at hlc; omega
  obtain ⟨t, I⟩ := r₁.inst
  rw [hcl] at r₁
  -- self.keys.remove(key)
  refine w_cons (w_Expr (w_remove (w_Attr (w_ld F rfl (rg_keys B F.keep I ?_)))))
  refine ⟨_, rfl, ⟨_, r₁.keys⟩, w_ld F rfl ⟨pre.map CI.keyV, x.keyV, post.map CI.keyV, by simpa using r₁.keys, by simp; omega, ⟨fun y => match y with | .int a _ => a == k | _ => false, ?_, ?_, ?_⟩, fun h₂ p₂ k₂ => ⟨trivial, ?_⟩⟩⟩
  · intro y hy
    rw [← List.map_cons, ← List.map_append] at hy
    obtain ⟨c, -, rfl⟩ := List.mem_map.mp hy
    exact MeetsSeq.EqGives.int _ _ _ _
  · simp [CI.keyV, hxk]
  · intro y hy
    obtain ⟨c, hc, rfl⟩ := List.mem_map.mp hy
    simpa [CI.keyV] using hpre c hc
  rw [← List.map_append] at p₂
  have r₂ := r₁.setK k₂ p₂
  have F₂ := fk B F (k₂.mono (mem_one ρ.m3)) hL r₁.lo
  obtain ⟨t₂, I₂⟩ := r₂.inst
  -- size = self.sizes.pop(key)
  refine w_cons (w_AssignName (w_pop1 (w_Attr (w_ld F₂ rfl (rg_sizes B F₂.keep I₂ ?_)))))
  refine ⟨_, rfl, ⟨_, r₂.sizs⟩, w_ld F₂ rfl ⟨k, kt, _, _, rfl, r₂.sizs, by simp; omega, valueAt_split _ hxk hpre, fun h₃ p₃ k₃ => ?_⟩⟩
  rw [without_split _ hxk hpre hpost] at p₃
  have r₃ := r₂.setS k₃ p₃
  have F₃ := fk B F₂ (k₃.mono (mem_one ρ.m5)) hL r₁.lo
  refine w_st F₃ fun h₄ F₄ k₄ => ?_
  have r₄ := r₃.kept k₄ (fun a ha m => hL (by rw [← List.mem_singleton.mp m]; exact ha))
  obtain ⟨t₄, I₄⟩ := r₄.inst
  -- self.total = self.total - size
  refine w_cons (w_AssignAttr (w_BinOp (w_Attr (w_ld F₄ rfl (rg_total B F₄.keep I₄ ?_)))))
  refine w_ld F₄ rfl (w_sub fun t₅ => w_ld F₄ rfl ?_)
  refine rs_total B F₄.keep r₄.nd I₄ fun h₅ I₅ k₅ => ?_
  have r₅ := r₄.setT k₅ I₅
  have F₅ := fk B F₄ (k₅.mono (mem_one ρ.m2)) hL r₁.lo
  obtain ⟨t₆, I₆⟩ := r₅.inst
  -- return (self.values.pop(key), size)
  refine w_cons (w_Return (w_Tuple (w_items (w_pop1 (w_Attr (w_ld F₅ rfl (rg_values B F₅.keep I₆ ?_)))))))
  refine ⟨_, rfl, ⟨_, r₅.vals⟩, w_ld F₅ rfl ⟨k, kt, _, _, rfl, r₅.vals, by simp; omega, valueAt_split _ hxk hpre, fun h₆ p₆ k₆ => ?_⟩⟩
  rw [without_split _ hxk hpre hpost] at p₆
  have r₆ := r₅.setV k₆ p₆
  have F₆ := fk B F₅ (k₆.mono (mem_one ρ.m4)) hL r₁.lo
  refine w_items (w_ld F₆ rfl (w_items0 ⟨by simp, fun h₇ p₇ k₇ => ?_⟩))
  have r₇ := r₆.kept k₇ (by simp)
  have kk : Kept (ρ.all ++ [h.objs.size]) h h₆ := by
    have s1 : ∀ a ∈ ρ.all, a ∈ ρ.all ++ [h.objs.size] := fun a ha => List.mem_append_left _ ha
    exact (((((k₁.nil.trans ((k₂.mono (mem_one ρ.m3)).mono s1)).trans ((k₃.mono (mem_one ρ.m5)).mono s1)).trans (k₄.mono (by simp))).trans ((k₅.mono (mem_one ρ.m2)).mono s1)).trans ((k₆.mono (mem_one ρ.m4)).mono s1))
  have kk' : Kept ρ.all h h₆ := kk.drop (by intro a ha; rw [List.mem_singleton.mp ha]; exact fresh_none h)
  have tot : total l = x.it.z + total (dropK l k) := by
    have e : l = (pre ++ x :: post).map (·.it) := by rw [← h1, hcl]
    rw [hdrop, e]
    simp only [List.map_append, List.map_cons, total_append, total_cons]
    omega
  refine q h₇ _ x.valV x.zt (kk'.trans k₇.nil) ⟨pre ++ post, hdrop.symm, keysNd_drop nd k, ?_⟩ ?_ (by rw [← hx]; exact p₇) ?_
  · have e : total l - x.it.z = total (dropK l k) := by omega
    rw [← e]; exact r₇
  · obtain ⟨o, _, _, e, _⟩ := F₆.ns
    exact Nat.le_of_lt (Heap.lt_size e)
  · rw [← hx]; exact Val_valV x
end
end Mine
end

section
open PySem PySem.W PyProof.Rows PySem.Calls
namespace Mine
theorem put_ne {x y : Str} {v : Value} {m : Str → Option Value} (h : y ≠ x) : put x v m y = m y := if_neg h
theorem put_eq {x : Str} {v : Value} {m : Str → Option Value} : put x v m x = some v := if_pos rfl

/-- the held things: key to how often -/
def hst (l : List (Int × Int)) (k c : Int) : List (Int × Int) := if l.any (fun kv => kv.1 = k) then l.map (fun kv => if kv.1 = k then (kv.1, c) else kv) else l ++ [(k, c)]
def hwo (l : List (Int × Int)) (k : Int) : List (Int × Int) := l.filter fun kv => decide (kv.1 ≠ k)
def hat (l : List (Int × Int)) (k : Int) : Option Int := (l.find? fun kv => kv.1 = k).map (·.2)
def hin (l : List (Int × Int)) (k : Int) : Bool := l.any fun kv => kv.1 = k
def HeldAt (prog : Program) (w : World) (h : Heap) (a : Addr) (l : List (Int × Int)) : Prop :=
  350 ≤ a ∧ ∃ cl : List (Int × Int × Tok), cl.map (fun x => (x.1, x.2.1)) = l ∧ DI prog w h a (cl.map fun x => (x.1, .int x.2.1 x.2.2))
theorem HeldAt.kept {prog : Program} {w : World} {h h' : Heap} {a : Addr} {l : List (Int × Int)} {S : List Addr} (x : HeldAt prog w h a l) (k : Kept S h h') (ha : a ∉ S) : HeldAt prog w h' a l := by
  obtain ⟨lo, cl, e, d⟩ := x; exact ⟨lo, cl, e, d.kept k ha⟩
theorem HeldAt.lt {prog : Program} {w : World} {h : Heap} {a : Addr} {l : List (Int × Int)} (x : HeldAt prog w h a l) : a < h.objs.size := by obtain ⟨lo, cl, e, d⟩ := x; exact d.lt
theorem held_any {cl : List (Int × Int × Tok)} {l : List (Int × Int)} (e : cl.map (fun x => (x.1, x.2.1)) = l) (k : Int) : ((cl.map fun x => (x.1, Value.int x.2.1 x.2.2)).any fun kv => decide (kv.1 = k)) = hin l k := by
  rw [← e, hin, List.any_map, List.any_map]; rfl

/-- the oldest that is not held -/
def oldestK (l : List It) (held : List (Int × Int)) : Option Int := (l.find? fun i => !hin held i.k).map (·.k)
def KeyV (v : Value) (o : Option Int) : Prop := match o with | none => v = .none | some k => ∃ t, v = .int k t

section
variable {prog : Program} {w : World} {c : Cx} {A : Around} {E : Value → Heap → Prop} {Q : Value → Heap → Prop} {base h : Heap} {env : Env} {o e e2 e3 : Expr} {apos pos : Pos} {pl : Sem Bool}

theorem r_has (B : Base w base) (room : Room A 1) (y : W prog w c A (eval o env) (fun ov h₁ => ∃ ρ l, ov = .ref ρ.x ∧ In0 base h₁ ∧ RowAt prog w h₁ ρ l ∧ W prog w c A (eval e env) (fun v h₂ => ∃ k t, v = .int k t ∧ In0 base h₂ ∧ RowAt prog w h₂ ρ l ∧ ∀ h', Kept [] h₂ h' → Q (.bool (hasK l k)) h') E h₁) E h)
    (he : eval (.Call (.Attribute o "has" apos) [e] [] pos) env = (do
      let ov ← eval o env
      standAt apos.atName
      let (f, first) ← holding [ov] (getMethod ov "has" pl)
      callWith pos f first (backTo pos (starEach [e] env)) (backToKw pos (keywordEach [] env))) := by rfl)
    (hst : starEach [e] env = (false, eval e env) :: starEach [] env := by rfl) (hplain : (backTo pos (starEach [] env)).any (·.1) = false := by rfl) :
    W prog w c A (eval (.Call (.Attribute o "has" apos) [e] [] pos) env) Q E h := by
  refine w_mcall B (y.post fun ov h₁ q => ?_) he hst hplain
  obtain ⟨ρ, l, rfl, kp, r, q⟩ := q
  obtain ⟨t, I⟩ := r.inst
  refine ⟨_, _, _, _, 74, rfl, kp, I, rfl, by k_is, by k_is, by k_is, by k_is, w_items (q.post fun v h₂ q => w_items0 ?_) hst⟩
  obtain ⟨k, t, rfl, kp, r, q⟩ := q
  exact ⟨kp, c_row_has B kp room r q⟩

theorem r_take (B : Base w base) (room : Room A 1) (y : W prog w c A (eval o env) (fun ov h₁ => ∃ ρ l, ov = .ref ρ.x ∧ In0 base h₁ ∧ RowAt prog w h₁ ρ l ∧ W prog w c A (eval e env) (fun v h₂ => ∃ k t it, v = .int k t ∧ In0 base h₂ ∧ RowAt prog w h₂ ρ l ∧ findK l k = some it ∧ l.length ≤ 10000 ∧
      ∀ h' a V zt, Kept ρ.all h₂ h' → RowAt prog w h' ρ (dropK l k) → h₂.objs.size ≤ a → PT h' a [V, .int it.z zt] → Val V it.v → Q (.ref a) h') E h₁) E h)
    (he : eval (.Call (.Attribute o "take" apos) [e] [] pos) env = (do
      let ov ← eval o env
      standAt apos.atName
      let (f, first) ← holding [ov] (getMethod ov "take" pl)
      callWith pos f first (backTo pos (starEach [e] env)) (backToKw pos (keywordEach [] env))) := by rfl)
    (hst : starEach [e] env = (false, eval e env) :: starEach [] env := by rfl) (hplain : (backTo pos (starEach [] env)).any (·.1) = false := by rfl) :
    W prog w c A (eval (.Call (.Attribute o "take" apos) [e] [] pos) env) Q E h := by
  refine w_mcall B (y.post fun ov h₁ q => ?_) he hst hplain
  obtain ⟨ρ, l, rfl, kp, r, q⟩ := q
  obtain ⟨t, I⟩ := r.inst
  refine ⟨_, _, _, _, 88, rfl, kp, I, rfl, by k_is, by k_is, by k_is, by k_is, w_items (q.post fun v h₂ q => w_items0 ?_) hst⟩
  obtain ⟨k, t, it, rfl, kp, r, hf, hl, q⟩ := q
  exact ⟨kp, c_row_take B kp room r hf hl q⟩

theorem r_add (B : Base w base) (room : Room A 1) (y : W prog w c A (eval o env) (fun ov h₁ => ∃ ρ l, ov = .ref ρ.x ∧ In0 base h₁ ∧ RowAt prog w h₁ ρ l ∧
      W prog w c A (eval e env) (fun v h₂ => W prog w c A (eval e2 env) (fun V h₃ => W prog w c A (eval e3 env) (fun u h₄ => ∃ k t vo z zt, v = .int k t ∧ u = .int z zt ∧ Val V vo ∧ In0 base h₄ ∧ RowAt prog w h₄ ρ l ∧ hasK l k = false ∧ l.length ≤ 10000 ∧
      ∀ h', Kept ρ.all h₄ h' → RowAt prog w h' ρ (l ++ [⟨k, vo, z⟩]) → Q .none h') E h₃) E h₂) E h₁) E h)
    (he : eval (.Call (.Attribute o "add" apos) [e, e2, e3] [] pos) env = (do
      let ov ← eval o env
      standAt apos.atName
      let (f, first) ← holding [ov] (getMethod ov "add" pl)
      callWith pos f first (backTo pos (starEach [e, e2, e3] env)) (backToKw pos (keywordEach [] env))) := by rfl)
    (hst : starEach [e, e2, e3] env = (false, eval e env) :: starEach [e2, e3] env := by rfl) (hst2 : starEach [e2, e3] env = (false, eval e2 env) :: starEach [e3] env := by rfl) (hst3 : starEach [e3] env = (false, eval e3 env) :: starEach [] env := by rfl)
    (hplain : (backTo pos (starEach [e2, e3] env)).any (·.1) = false := by rfl) :
    W prog w c A (eval (.Call (.Attribute o "add" apos) [e, e2, e3] [] pos) env) Q E h := by
  refine w_mcall B (y.post fun ov h₁ q => ?_) he hst hplain
  obtain ⟨ρ, l, rfl, kp, r, q⟩ := q
  obtain ⟨t, I⟩ := r.inst
  refine ⟨_, _, _, _, 81, rfl, kp, I, rfl, by k_is, by k_is, by k_is, by k_is, w_items (q.post fun v h₂ q => w_items (q.post fun V h₃ q => w_items (q.post fun u h₄ q => w_items0 ?_) hst3) hst2) hst⟩
  obtain ⟨k, t, vo, z, zt, rfl, rfl, hV, kp, r, hk, hl, q⟩ := q
  exact ⟨kp, c_row_add B kp room r hV hk hl q⟩
end

section
variable {prog : Program} {w : World} {c : Cx} {base h : Heap} {A : Around} {R : Result → Heap → Prop}

theorem hasK_drop (l : List It) (k : Int) : hasK (dropK l k) k = false := by
  unfold hasK dropK
  rw [List.any_eq_false]
  intro i hi
  have := (List.mem_filter.mp hi).2
  simpa using this
theorem dropK_len (l : List It) (k : Int) : (dropK l k).length ≤ l.length := List.length_filter_le _ _

theorem c_row_touch {ρ : RA} {l : List It} {k : Int} {kt : Tok} {it : It} (B : Base w base) (kp : In0 base h) (room : Room A 2) (r : RowAt prog w h ρ l)
    (hf : findK l k = some it) (hlen : l.length ≤ 9000)
    (q : ∀ h' V, Kept ρ.all h h' → RowAt prog w h' ρ (dropK l k ++ [⟨k, it.v, it.z⟩]) → Val V it.v → R (.ok (.ret V)) h') :
    C prog w c A (.call (.ref 95) ⟨[.ref ρ.x, .int k kt], []⟩) R h := by
  refine cf [("self", .ref ρ.x), ("key", .int k kt)] B kp room (by k_is) (by k_is) (fun _ _ => BindsTo.of_eq rfl) (locs rfl) (fun h₁ F k₁ => ?_)
  have hL := not_mem_of_lt r.lt
  have r₁ := r.kept0 k₁
  -- value, size = self.take(key)
  refine w_cons (w_AssignTuple (r_take B (room.deeper) (w_ld F rfl ⟨ρ, l, rfl, F.keep, r₁, w_ld F rfl ⟨k, kt, it, rfl, F.keep, r₁, hf, by omega, fun h₂ a V zt k₂ r₂ ha p₂ hV => ?_⟩⟩)))
  have F₂ := fk B F k₂ hL r.lo
  refine w_unpack2 room.hand p₂ fun h₃ k₃ => ?_
  have F₃ := fk0 F₂ k₃
  refine w_st F₃ fun h₄ F₄ k₄ => w_st F₄ fun h₅ F₅ k₅ => ?_
  have r₅ := ((r₂.kept0 k₃).kept (k₄.trans k₅) (fun a ha m => hL (by rw [← List.mem_singleton.mp m]; exact ha)))
  -- self.add(key, value, size)
  refine w_cons (w_Expr (r_add B (room.deeper) (w_ld F₅ rfl ⟨ρ, _, rfl, F₅.keep, r₅, w_ld F₅ rfl (w_ld F₅ rfl (w_ld F₅ rfl ⟨k, kt, it.v, it.z, zt, rfl, rfl, hV, F₅.keep, r₅, hasK_drop l k, by have := dropK_len l k; omega, fun h₆ k₆ r₆ => ⟨trivial, ?_⟩⟩))⟩)))
  have F₆ := fk B F₅ k₆ hL r.lo
  refine w_cons (w_Return (w_ld F₆ rfl (q _ V ?_ r₆ hV)))
  have kk : Kept (ρ.all ++ [h.objs.size]) h h₆ := by
    have s1 : ∀ a ∈ ρ.all, a ∈ ρ.all ++ [h.objs.size] := fun a ha => List.mem_append_left _ ha
    have s2 : ∀ a ∈ [h.objs.size], a ∈ ρ.all ++ [h.objs.size] := fun a ha => List.mem_append_right _ ha
    exact ((((k₁.nil.trans (k₂.mono s1)).trans k₃.nil).trans (k₄.mono s2)).trans (k₅.mono s2)).trans (k₆.mono s1)
  exact kk.drop (by intro a ha; rw [List.mem_singleton.mp ha]; exact fresh_none h)

theorem c_row_len {ρ : RA} {l : List It} (B : Base w base) (kp : In0 base h) (room : Room A 1) (r : RowAt prog w h ρ l) (hlen : l.length ≤ 10000)
    (q : ∀ h' t, Kept [] h h' → R (.ok (.ret (.int l.length t))) h') : C prog w c A (.call (.ref 67) ⟨[.ref ρ.x], []⟩) R h := by
  refine cf [("self", .ref ρ.x)] B kp room (by k_is) (by k_is) (fun _ _ => BindsTo.of_eq rfl) (locs rfl) (fun h₁ F k₁ => ?_)
  obtain ⟨cl, h1, nd, r₁⟩ := r.kept0 k₁
  obtain ⟨t, I⟩ := r₁.inst
  have hlc : cl.length = l.length := by rw [← h1]; simp
  refine w_cons (w_Return (w_bcall B F.keep (by k_is) (by boot_by_name) (by decide) (w_items (w_Attr (w_ld F rfl (rg_keys B F.keep I (w_items0 (w_lenL r₁.keys (by simp; omega) fun t => ?_)))))))) 
  rw [List.length_map, hlc]
  exact q _ t k₁

theorem c_row_oldest {ρ : RA} {l : List It} {ha : Addr} {held : List (Int × Int)} (B : Base w base) (kp : In0 base h) (room : Room A 1) (r : RowAt prog w h ρ l) (hd : HeldAt prog w h ha held) (hlen : l.length ≤ 10000)
    (q : ∀ h' V, Kept [] h h' → KeyV V (oldestK l held) → R (.ok (.ret V)) h') : C prog w c A (.call (.ref 102) ⟨[.ref ρ.x, .ref ha], []⟩) R h := by
  refine cf [("self", .ref ρ.x), ("held", .ref ha)] B kp room (by k_is) (by k_is) (fun _ _ => BindsTo.of_eq rfl) (locs rfl) (fun h₁ F k₁ => ?_)
  obtain ⟨cl, h1, nd, r₁⟩ := r.kept0 k₁
  obtain ⟨t, I⟩ := r₁.inst
  have hd₁ := hd.kept k₁ (by simp)
  have hlc : cl.length = l.length := by rw [← h1]; simp
  have hL := fresh_none h
  have fin : ∀ {h'}, Kept [h.objs.size, h₁.objs.size] h₁ h' → Kept [] h h' := fun {h'} k => by
    refine Kept.drop (S := []) (k₁.nil.trans k) (fun a m => ?_)
    rcases List.mem_cons.mp m with rfl | m
    · exact fresh_none h
    · rw [List.mem_singleton.mp m]
      cases e : h.get? h₁.objs.size with
      | none => rfl
      | some o => exact absurd (Heap.lt_size (k₁.all _ _ e)) (Nat.lt_irrefl _)
  have hnL : h.objs.size ≠ h₁.objs.size := by obtain ⟨o, _, _, e, _⟩ := F.ns; exact Nat.ne_of_lt (Heap.lt_size e)
  refine w_cons (w_ForL room.hand (w_Attr (w_ld F rfl (rg_keys B F.keep I ?_))))
  refine ⟨ρ.ka, cl.map CI.keyV, fun i h' => Kept [h.objs.size, h₁.objs.size] h₁ h' ∧ (∃ m, Fr base h.objs.size h' m ∧ m "held" = some (.ref ha)) ∧ ∀ x ∈ cl.take i, hin held x.it.k = true, rfl, .inl r₁.keys, ?_, ?_, ?_, ?_⟩
  · intro h' k
    exact ⟨k.nil, ⟨_, fk0 F k, rfl⟩, by simp⟩
  · rintro i h' h'' ⟨a, ⟨m, F', hm⟩, b⟩ k
    exact ⟨a.trans (k.mono (by simp)), ⟨m, fk B F' k (by simp; exact hnL) (by simp; exact Nat.le_trans (by rw [← B.size]; exact F.above) (Nat.le_of_lt (Nat.lt_of_le_of_ne (Nat.le_of_lt_succ (Nat.lt_succ_of_lt (by obtain ⟨o, _, _, e, _⟩ := F.ns; exact Heap.lt_size e))) hnL))), hm⟩, b⟩
  · rintro i v h' hv ⟨a, ⟨m, F', hm⟩, b⟩
    obtain ⟨x, hx, rfl⟩ : ∃ x, cl[i]? = some x ∧ v = x.keyV := by
      rw [List.getElem?_map] at hv
      obtain ⟨x, hx, e⟩ := Option.map_eq_some_iff.mp hv
      exact ⟨x, hx, e.symm⟩
    refine w_st F' fun h₂ F₂ k₂ => ?_
    obtain ⟨hlo, hcl, he, hdi⟩ := hd₁.kept (a.trans (k₂.mono (by simp))) (by
      simp only [List.mem_cons, List.not_mem_nil, or_false, not_or]
      exact ⟨Nat.ne_of_lt hd.lt, Nat.ne_of_lt hd₁.lt⟩)
    have hm₂ : put "key" x.keyV m "held" = some (.ref ha) := (put_ne (by decide)).trans hm
    refine w_cons (w_If (w_tCmp (w_ld F₂ rfl (w_ld F₂ hm₂ (w_dnotin hdi hlo (w_truthy ?_))))))
    rw [held_any he]
    cases hh : hin held x.it.k with
    | true =>
      first | refine if_no (by first | rfl | simp only [Bool.not_true]) ?_ | simp only [Bool.not_true, Bool.false_eq_true, if_false]
      refine w_nil (w_nil ⟨⟨a.trans (k₂.mono (by simp)), ⟨_, F₂, hm₂⟩, ?_⟩, [h.objs.size], k₂, ?_, ?_⟩)
      · intro y hy
        rw [List.take_add_one, hx] at hy
        rcases List.mem_append.mp hy with hy | hy
        · exact b y hy
        · simp at hy; rw [hy]; exact hh
      · simp; exact fun z => not_mem_of_lt r.lt (by rw [← z]; exact ρ.m3)
      · simp; exact Ne.symm hnL
    | false =>
      first | refine if_yes (by first | rfl | simp only [Bool.not_false]) ?_ | simp only [Bool.not_false, if_true]
      refine w_cons (w_Return (w_ld F₂ rfl (q _ _ (fin (a.trans (k₂.mono (by simp)))) ?_)))
      have : oldestK l held = some x.it.k := by
        unfold oldestK
        rw [← h1]
        have e : (cl.map (·.it)).find? (fun i => !hin held i.k) = some x.it := by
          have hi : i < cl.length := (List.getElem?_eq_some_iff.mp hx).1
          have hcx : cl = cl.take i ++ x :: cl.drop (i + 1) := by
            have := List.take_append_drop i cl
            rw [List.drop_eq_getElem_cons hi] at this
            rw [(List.getElem?_eq_some_iff.mp hx).2] at this
            exact this.symm
          rw [hcx, List.map_append, List.find?_append, List.find?_eq_none.mpr]
          · simp [hh]
          · intro y hy; obtain ⟨z, hz, rfl⟩ := List.mem_map.mp hy; simp [b z hz]
        rw [e]; rfl
      rw [this]; exact ⟨_, rfl⟩
  · rintro h' ⟨a, ⟨m, F', hm⟩, b⟩
    refine w_nil ?_
    refine w_cons (w_Return (w_none (q _ _ (fin a) ?_)))
    have : oldestK l held = none := by
      unfold oldestK
      rw [List.find?_eq_none.mpr]
      · rfl
      · intro i hi
        rw [← h1] at hi
        obtain ⟨x, hx, rfl⟩ := List.mem_map.mp hi
        simp [b x (by simpa using hx)]
    rw [this]; exact rfl
end
end Mine
end

section
open PySem PySem.W PyProof.Rows PySem.Calls
namespace Mine
/-- a pair, a row's pairs, laid out at or above lo -/
def PairV (lo : Addr) (h : Heap) (v : Value) (p : Int × Int) : Prop := ∃ b t u, v = .ref b ∧ lo ≤ b ∧ PT h b [.int p.1 t, .int p.2 u]
def RowV (lo : Addr) (h : Heap) (v : Value) (l : List (Int × Int)) : Prop := ∃ a vs, v = .ref a ∧ lo ≤ a ∧ PT h a vs ∧ Paired (PairV lo h) vs l
theorem PairV.kept {lo : Addr} {h h' : Heap} {v : Value} {p : Int × Int} {S : List Addr} (x : PairV lo h v p) (k : Kept S h h') (hS : ∀ a ∈ S, a < lo) : PairV lo h' v p := by
  obtain ⟨b, t, u, rfl, hb, p⟩ := x
  exact ⟨b, t, u, rfl, hb, p.kept k fun m => Nat.lt_irrefl _ (Nat.lt_of_lt_of_le (hS b m) hb)⟩
theorem RowV.kept {lo : Addr} {h h' : Heap} {v : Value} {l : List (Int × Int)} {S : List Addr} (x : RowV lo h v l) (k : Kept S h h') (hS : ∀ a ∈ S, a < lo) : RowV lo h' v l := by
  obtain ⟨a, vs, rfl, ha, p, d⟩ := x
  exact ⟨a, vs, rfl, ha, p.kept k fun m => Nat.lt_irrefl _ (Nat.lt_of_lt_of_le (hS a m) ha), Paired.mono (fun _ _ x => PairV.kept x k hS) d⟩
theorem PairV.mono {lo lo' : Addr} {h : Heap} {v : Value} {p : Int × Int} (x : PairV lo h v p) (hl : lo' ≤ lo) : PairV lo' h v p := by
  obtain ⟨b, t, u, e, hb, p⟩ := x; exact ⟨b, t, u, e, Nat.le_trans hl hb, p⟩
theorem RowV.mono {lo lo' : Addr} {h : Heap} {v : Value} {l : List (Int × Int)} (x : RowV lo h v l) (hl : lo' ≤ lo) : RowV lo' h v l := by
  obtain ⟨a, vs, e, ha, p, d⟩ := x; exact ⟨a, vs, e, Nat.le_trans hl ha, p, Paired.mono (fun _ _ x => x.mono hl) d⟩
def plainOf (l : List It) : List (Int × Int) := l.map fun i => (i.k, i.z)

theorem findK_mem {l : List It} {k : Int} (nd : keysNd l) {i : It} (hi : i ∈ l) : findK l i.k = some i := by
  induction l with
  | nil => cases hi
  | cons a r ih =>
    unfold keysNd at nd
    simp only [List.map_cons, List.nodup_cons] at nd
    unfold findK
    rw [List.find?_cons]
    rcases List.mem_cons.mp hi with rfl | hi
    · simp
    · have : a.k ≠ i.k := fun e => nd.1 (by rw [e]; exact List.mem_map_of_mem hi)
      simp only [this, decide_false]
      exact ih nd.2 hi

section
variable {prog : Program} {w : World} {c : Cx} {base h : Heap} {A : Around} {R : Result → Heap → Prop}

theorem c_row_plain {ρ : RA} {l : List It} (B : Base w base) (kp : In0 base h) (room : Room A 1) (r : RowAt prog w h ρ l) (hlen : l.length ≤ 10000)
    (q : ∀ h' V lo, Kept [] h h' → h.objs.size ≤ lo → RowV lo h' V (plainOf l) → R (.ok (.ret V)) h') : C prog w c A (.call (.ref 107) ⟨[.ref ρ.x], []⟩) R h := by
  refine cfC [("self", .ref ρ.x)] "self" (.ref ρ.x) B kp room (by k_is) (by k_is) rfl (fun _ => rfl) rfl rfl rfl (fun h₁ F cell k₁ => ?_)
  obtain ⟨cl, h1, nd, r₁⟩ := r.kept0 k₁
  obtain ⟨t, I⟩ := r₁.inst
  have hlc : cl.length = l.length := by rw [← h1]; simp
  have hge : h.objs.size ≤ h₁.objs.size := by obtain ⟨o, _, _, e, _⟩ := F.ns; exact Nat.le_of_lt (Heap.lt_size e)
  refine w_cons (w_Return (w_tcall B F.keep (by k_is) (by boot_by_name) (by decide) (w_items ?_)))
  refine w_LCG [("self", h.objs.size + 1)] (fun _ => true) (fun v u lo h' => ∃ x ∈ cl, v = x.keyV ∧ PairV lo h' u (x.it.k, x.it.z)) room.hand ?_ rfl (by decide) rfl (by decide) rfl ?_
  · rintro v u lo h' h'' S ⟨x, hx, e, p⟩ k hS
    exact ⟨x, hx, e, p.kept k hS⟩
  refine w_Attr (w_cell cell (rg_keys B F.keep I ⟨ρ.ka, _, rfl, .inl r₁.keys, by simp; omega, ?_, ?_, ?_⟩))
  · intro C v h₃ m₃ hC hv hN hm k₃
    exact w_tests0 ⟨rfl, Kept.refl _ _⟩
  · intro C v h₃ m₃ hC hv _ hN hm k₃
    obtain ⟨x, hx, rfl⟩ := List.mem_map.mp hv
    have r₃ := r₁.kept k₃ (by simp)
    obtain ⟨t₃, I₃⟩ := r₃.inst
    have cell₃ := cell.keeps k₃.all
    have kp₃ : In0 base h₃ := fun b o e => k₃.all b o (F.keep b o e)
    refine w_Tuple (w_items (w_ns hN hm ?_))
    refine w_items (w_Sub (w_Attr (w_cell cell₃ (rg_sizes B kp₃ I₃ (w_ns hN hm ?_)))))
    have hv : valueAt (cl.map fun c => (c.it.k, c.sizV)) x.it.k = some x.sizV := by
      obtain ⟨pre, y, post, e1, e2, e3, e4, e5, e6⟩ := findK_split h1 nd (findK_mem (k := x.it.k) nd (by rw [← h1]; exact List.mem_map_of_mem hx))
      rw [e1, valueAt_split _ (by rw [e2]) e4]
      simp only [CI.sizV, e2]
      congr 2
      have : y = x := by
        have hx' := e1 ▸ hx
        rcases List.mem_append.mp hx' with m | m
        · exact absurd rfl (e4 x m)
        · rcases List.mem_cons.mp m with m | m
          · exact m.symm
          · exact absurd rfl (e5 x m)
      rw [this]
    refine w_dget r₃.sizs hv (w_items0 ⟨by simp, fun h₄ p₄ k₄ => ⟨⟨x, hx, rfl, _, _, _, rfl, Nat.le_refl _, p₄⟩, k₄⟩⟩)
  · intro D h₂ ys hD pD d k₂
    have e : (cl.map CI.keyV).filter (fun _ => true) = cl.map CI.keyV := List.filter_eq_self.mpr (fun _ _ => rfl)
    rw [e] at d
    have hys : ys.length = cl.length := by have := d.length; simpa using this.symm
    refine w_items0 (w_tuple pD (by omega) fun h₃ a k₃ ha p₃ => ?_)
    have k13 := k₂.trans k₃
    -- the pairs, one by one
    have d' : ∀ (xs : List CI) (us : List Value), (∀ x ∈ xs, x ∈ cl) → Paired (fun v u => ∃ lo, h₁.objs.size ≤ lo ∧ ∃ x ∈ cl, v = x.keyV ∧ PairV lo h₂ u (x.it.k, x.it.z)) (xs.map CI.keyV) us → Paired (PairV h.objs.size h₃) us (xs.map fun x => (x.it.k, x.it.z)) := by
      intro xs
      induction xs with
      | nil => intro us _ d; cases d; exact .nil
      | cons x xs ih =>
        intro us hm d
        cases d with
        | cons f t =>
          obtain ⟨lo, hlo, y, hy, e, p⟩ := f
          refine .cons ?_ (ih _ (fun z hz => hm z (List.mem_cons_of_mem _ hz)) t)
          have ek : y.it.k = x.it.k := by simp only [CI.keyV] at e; injection e with e _; exact e.symm
          have : y = x := by
            obtain ⟨pre, z, post, e1, e2, e3, e4, e5, e6⟩ := findK_split h1 nd (findK_mem (k := x.it.k) nd (by rw [← h1]; exact List.mem_map_of_mem (hm x List.mem_cons_self)))
            have aux : ∀ u ∈ cl, u.it.k = x.it.k → u = z := fun u hu eu => by
              rcases List.mem_append.mp (e1 ▸ hu) with m | m
              · exact absurd eu (e4 u m)
              · rcases List.mem_cons.mp m with m | m
                · exact m
                · exact absurd eu (e5 u m)
            rw [aux y hy ek, aux x (hm x List.mem_cons_self) rfl]
          rw [this] at p
          exact (p.kept k₃ (by simp)).mono (Nat.le_trans hge hlo)
    refine q h₃ _ h.objs.size (k₁.trans k13) (Nat.le_refl _) ⟨a, ys, rfl, ?_, p₃, ?_⟩
    · obtain ⟨o, _, _, e, _⟩ := (fk0 F k₂).ns; exact Nat.le_of_lt (ha _ _ e)
    · have := d' cl ys (fun _ h => h) d
      unfold plainOf
      rw [← h1, List.map_map]; exact this
end

section
variable {prog : Program} {w : World} {c : Cx} {A : Around} {E : Value → Heap → Prop} {Q : Value → Heap → Prop} {base h : Heap} {env : Env} {o e e2 e3 : Expr} {apos pos : Pos} {pl : Sem Bool}
theorem r_touch (B : Base w base) (room : Room A 2) (y : W prog w c A (eval o env) (fun ov h₁ => ∃ ρ l, ov = .ref ρ.x ∧ In0 base h₁ ∧ RowAt prog w h₁ ρ l ∧ W prog w c A (eval e env) (fun v h₂ => ∃ k t it, v = .int k t ∧ In0 base h₂ ∧ RowAt prog w h₂ ρ l ∧ findK l k = some it ∧ l.length ≤ 9000 ∧
      ∀ h' V, Kept ρ.all h₂ h' → RowAt prog w h' ρ (dropK l k ++ [⟨k, it.v, it.z⟩]) → Val V it.v → Q V h') E h₁) E h)
    (he : eval (.Call (.Attribute o "touch" apos) [e] [] pos) env = (do
      let ov ← eval o env
      standAt apos.atName
      let (f, first) ← holding [ov] (getMethod ov "touch" pl)
      callWith pos f first (backTo pos (starEach [e] env)) (backToKw pos (keywordEach [] env))) := by rfl)
    (hst : starEach [e] env = (false, eval e env) :: starEach [] env := by rfl) (hplain : (backTo pos (starEach [] env)).any (·.1) = false := by rfl) :
    W prog w c A (eval (.Call (.Attribute o "touch" apos) [e] [] pos) env) Q E h := by
  refine w_mcall B (y.post fun ov h₁ q => ?_) he hst hplain
  obtain ⟨ρ, l, rfl, kp, r, q⟩ := q
  obtain ⟨t, I⟩ := r.inst
  refine ⟨_, _, _, _, 95, rfl, kp, I, rfl, by k_is, by k_is, by k_is, by k_is, w_items (q.post fun v h₂ q => w_items0 ?_) hst⟩
  obtain ⟨k, t, it, rfl, kp, r, hf, hl, q⟩ := q
  exact ⟨kp, c_row_touch B kp room r hf hl q⟩
theorem r_oldest (B : Base w base) (room : Room A 1) (y : W prog w c A (eval o env) (fun ov h₁ => ∃ ρ l, ov = .ref ρ.x ∧ In0 base h₁ ∧ RowAt prog w h₁ ρ l ∧ W prog w c A (eval e env) (fun v h₂ => ∃ ha held, v = .ref ha ∧ In0 base h₂ ∧ RowAt prog w h₂ ρ l ∧ HeldAt prog w h₂ ha held ∧ l.length ≤ 10000 ∧
      ∀ h' V, Kept [] h₂ h' → KeyV V (oldestK l held) → Q V h') E h₁) E h)
    (he : eval (.Call (.Attribute o "oldest" apos) [e] [] pos) env = (do
      let ov ← eval o env
      standAt apos.atName
      let (f, first) ← holding [ov] (getMethod ov "oldest" pl)
      callWith pos f first (backTo pos (starEach [e] env)) (backToKw pos (keywordEach [] env))) := by rfl)
    (hst : starEach [e] env = (false, eval e env) :: starEach [] env := by rfl) (hplain : (backTo pos (starEach [] env)).any (·.1) = false := by rfl) :
    W prog w c A (eval (.Call (.Attribute o "oldest" apos) [e] [] pos) env) Q E h := by
  refine w_mcall B (y.post fun ov h₁ q => ?_) he hst hplain
  obtain ⟨ρ, l, rfl, kp, r, q⟩ := q
  obtain ⟨t, I⟩ := r.inst
  refine ⟨_, _, _, _, 102, rfl, kp, I, rfl, by k_is, by k_is, by k_is, by k_is, w_items (q.post fun v h₂ q => w_items0 ?_) hst⟩
  obtain ⟨ha, held, rfl, kp, r, hd, hl, q⟩ := q
  exact ⟨kp, c_row_oldest B kp room r hd hl q⟩
theorem r_plain (B : Base w base) (room : Room A 1) (y : W prog w c A (eval o env) (fun ov h₁ => ∃ ρ l, ov = .ref ρ.x ∧ In0 base h₁ ∧ RowAt prog w h₁ ρ l ∧ l.length ≤ 10000 ∧
      ∀ h' V lo, Kept [] h₁ h' → h₁.objs.size ≤ lo → RowV lo h' V (plainOf l) → Q V h') E h)
    (he : eval (.Call (.Attribute o "plain" apos) [] [] pos) env = (do
      let ov ← eval o env
      standAt apos.atName
      let (f, first) ← holding [ov] (getMethod ov "plain" pl)
      callWith pos f first (backTo pos (starEach [] env)) (backToKw pos (keywordEach [] env))) := by rfl)
 :
    W prog w c A (eval (.Call (.Attribute o "plain" apos) [] [] pos) env) Q E h := by
  refine w_mcall0 B (y.post fun ov h₁ q => ?_) he
  obtain ⟨ρ, l, rfl, kp, r, hl, q⟩ := q
  obtain ⟨t, I⟩ := r.inst
  exact ⟨_, _, _, _, 107, rfl, kp, I, rfl, by k_is, by k_is, by k_is, by k_is, c_row_plain B kp room r hl q⟩
/-- len(row) -/
theorem r_len {m : Str → Option Value} {L : Addr} {ρ : RA} {l : List It} (B : Base w base) (room : Room A.in1 1) (F : Fr base L h m) (r : RowAt prog w h ρ l) (hl : l.length ≤ 10000)
    (q : ∀ h' t, Kept [] h h' → Q (.int l.length t) h') : W prog w c A (call (.builtin "len") [.ref ρ.x]) Q E h := by
  obtain ⟨t, I⟩ := r.inst
  exact w_lenO B F I (by k_is : findIn _ _ _ = some (some (.ref 67))) (by k_is) (c_row_len B F.keep room r hl fun h' t k => ⟨l.length, t, rfl, by omega, fun t => q h' t k⟩)
end
end Mine
end

section
open PySem PySem.W PyProof.Rows PySem.Calls
namespace Mine
structure Cn where
  rh : Int
  oh : Int
  ms : Int
  rs : Int
  os : Int
  po : Int
structure St where
  most : Int
  goal : Int
  rcn : List It
  oft : List It
  rg : List It
  og : List It
  held : List (Int × Int)
  cn : Cn

def usedS (σ : St) : Int := total σ.rcn + total σ.oft
def hasS (σ : St) (k : Int) : Bool := hasK σ.rcn k || hasK σ.oft k
def nextOut (σ : St) (s : Bool) : Option Int :=
  let r := oldestK σ.rcn σ.held
  let o := oldestK σ.oft σ.held
  if total σ.rcn > σ.goal ∨ (s = true ∧ total σ.rcn = σ.goal) then r.or o else o.or r
def putOut (σ : St) (k : Int) : St := match findK σ.rcn k with
  | some i => { σ with rcn := dropK σ.rcn k, rg := σ.rg ++ [⟨k, none, i.z⟩], cn := { σ.cn with po := σ.cn.po + 1 } }
  | none => match findK σ.oft k with
    | some i => { σ with oft := dropK σ.oft k, og := σ.og ++ [⟨k, none, i.z⟩], cn := { σ.cn with po := σ.cn.po + 1 } }
    | none => σ
def makeRoom : Nat → St → Int → Bool → St
  | 0, σ, _, _ => σ
  | n + 1, σ, z, s => if usedS σ + z > σ.most then (match nextOut σ s with | none => σ | some k => makeRoom n (putOut σ k) z s) else σ
def roomS (σ : St) (z : Int) (s : Bool) : St := makeRoom (σ.rcn.length + σ.oft.length + 1) σ z s
def cutL (lim b : Int) : List It → List It
  | [] => []
  | i :: r => if b + total (i :: r) > lim then cutL lim b r else i :: r
def cutS (σ : St) : St :=
  let rg := cutL σ.most (total σ.rcn) σ.rg
  { σ with rg, og := cutL (2 * σ.most) (total σ.rcn + total σ.oft + total rg) σ.og }
def forgetS (σ : St) (k : Int) : St :=
  if hasK σ.rcn k then { σ with rcn := dropK σ.rcn k } else if hasK σ.oft k then { σ with oft := dropK σ.oft k } else if hasK σ.rg k then { σ with rg := dropK σ.rg k } else if hasK σ.og k then { σ with og := dropK σ.og k } else σ
def dropS (σ : St) (k : Int) : St := { forgetS σ k with held := hwo σ.held k }
def stepOf (z other own : Int) : Int := z * max 1 (other / max 1 own)
def rowForS (σ : St) (k z : Int) : St × Bool :=
  if hasK σ.rg k then ({ σ with goal := min σ.most (σ.goal + stepOf z (total σ.og) (total σ.rg)), cn := { σ.cn with rs := σ.cn.rs + 1 } }, true)
  else if hasK σ.og k then ({ σ with goal := max 0 (σ.goal - stepOf z (total σ.rg) (total σ.og)), cn := { σ.cn with os := σ.cn.os + 1 } }, true)
  else (σ, hasS σ k)
def addS (σ : St) (o : Bool) (i : It) : St := if o then { σ with oft := σ.oft ++ [i] } else { σ with rcn := σ.rcn ++ [i] }
def putS (σ : St) (k : Int) (v : Option Int) (z : Int) : St × Bool :=
  if z > σ.most then (dropS σ k, false) else
    let p := rowForS σ k z
    (cutS (addS (roomS (forgetS p.1 k) z (hasK σ.og k)) p.2 ⟨k, v, z⟩), true)
def getS (σ : St) (k : Int) : St × Option Int :=
  match findK σ.rcn k with
  | some i => ({ σ with rcn := dropK σ.rcn k, oft := σ.oft ++ [⟨k, i.v, i.z⟩], cn := { σ.cn with rh := σ.cn.rh + 1 } }, i.v)
  | none => match findK σ.oft k with
    | some i => ({ σ with oft := dropK σ.oft k ++ [⟨k, i.v, i.z⟩], cn := { σ.cn with oh := σ.cn.oh + 1 } }, i.v)
    | none => ({ σ with cn := { σ.cn with ms := σ.cn.ms + 1 } }, none)
def settleS (σ : St) : St := cutS (roomS σ 0 false)
def holdS (σ : St) (k : Int) : St := { σ with held := hst σ.held k ((hat σ.held k).getD 0 + 1) }
def releaseS (σ : St) (k : Int) : St :=
  let n := (hat σ.held k).getD 0 - 1
  let σ' : St := { σ with held := hst σ.held k n }
  if n = 0 then settleS { σ' with held := hwo σ'.held k } else σ'
def resizeS (σ : St) (m : Int) : St := settleS { σ with most := m, goal := min σ.goal m }
def freeK (l : List It) (held : List (Int × Int)) : List Int := (l.filter fun i => !hin held i.k).map (·.k)
def clearS (σ : St) : St × Nat :=
  let ks := freeK σ.rcn σ.held ++ freeK σ.oft σ.held
  (cutS (ks.foldl putOut σ), ks.length)

/-! what stays so -/
def Dj (a b : List It) : Prop := ∀ k, hasK a k = true → hasK b k = false
def Rg (l : List It) : Prop := ∀ i ∈ l, (0 ≤ i.k ∧ i.k < 8) ∧ 1 ≤ i.z ∧ i.z ≤ 5
structure Good (σ : St) : Prop where
  n1 : keysNd σ.rcn
  n2 : keysNd σ.oft
  n3 : keysNd σ.rg
  n4 : keysNd σ.og
  d12 : Dj σ.rcn σ.oft
  d13 : Dj σ.rcn σ.rg
  d14 : Dj σ.rcn σ.og
  d23 : Dj σ.oft σ.rg
  d24 : Dj σ.oft σ.og
  d34 : Dj σ.rg σ.og
  g1 : Rg σ.rcn
  g2 : Rg σ.oft
  g3 : Rg σ.rg
  g4 : Rg σ.og
  hn : (σ.held.map (·.1)).Nodup
  hr : ∀ p ∈ σ.held, 0 ≤ p.1 ∧ p.1 < 8
  mp : 1 ≤ σ.most ∧ σ.most ≤ 12
  gp : 0 ≤ σ.goal ∧ σ.goal ≤ 12

theorem hasK_iff {l : List It} {k : Int} : hasK l k = true ↔ ∃ i ∈ l, i.k = k := by simp [hasK]
theorem hasK_append (l l' : List It) (k : Int) : hasK (l ++ l') k = (hasK l k || hasK l' k) := by simp [hasK]
theorem hasK_one (i : It) (k : Int) : hasK [i] k = decide (i.k = k) := by simp [hasK]
theorem hasK_dropK (l : List It) (k j : Int) : hasK (dropK l k) j = (hasK l j && decide (j ≠ k)) := by
  rw [Bool.eq_iff_iff]
  simp only [hasK_iff, dropK, List.mem_filter, Bool.and_eq_true, decide_eq_true_eq]
  constructor
  · rintro ⟨i, ⟨h1, h2⟩, rfl⟩; exact ⟨⟨i, h1, rfl⟩, h2⟩
  · rintro ⟨⟨i, h1, rfl⟩, h2⟩; exact ⟨i, ⟨h1, h2⟩, rfl⟩
theorem hasK_sub {l l' : List It} (s : l'.Sublist l) {k : Int} (h : hasK l' k = true) : hasK l k = true := by
  rw [hasK_iff] at h ⊢; obtain ⟨i, hi, e⟩ := h; exact ⟨i, s.subset hi, e⟩
theorem findK_some {l : List It} {k : Int} {i : It} (h : findK l k = some i) : i ∈ l ∧ i.k = k := by
  have h1 := List.mem_of_find?_eq_some h
  have h2 := List.find?_some h
  exact ⟨h1, by simpa using h2⟩
theorem findK_isSome (l : List It) (k : Int) : (findK l k).isSome = hasK l k := by
  unfold findK hasK
  rw [Bool.eq_iff_iff, List.find?_isSome, List.any_eq_true]
theorem findK_none {l : List It} {k : Int} : findK l k = none ↔ hasK l k = false := by
  rw [← findK_isSome]; cases findK l k <;> simp
theorem findK_has {l : List It} {k : Int} (h : hasK l k = true) : ∃ i, findK l k = some i := by
  rw [← findK_isSome] at h; exact Option.isSome_iff_exists.mp h
theorem dropK_sub (l : List It) (k : Int) : (dropK l k).Sublist l := List.filter_sublist
theorem cutL_sub (lim b : Int) : ∀ l, (cutL lim b l).Sublist l
  | [] => .slnil
  | i :: r => by
    unfold cutL
    split
    · exact (cutL_sub lim b r).cons i
    · exact List.Sublist.refl _
theorem Dj.symm {a b : List It} (h : Dj a b) : Dj b a := fun k hk => by
  cases e : hasK a k with
  | false => rfl
  | true => rw [h k e] at hk; cases hk
theorem Dj.sub {a b a' b' : List It} (h : Dj a b) (s : a'.Sublist a) (t : b'.Sublist b) : Dj a' b' := fun k hk => by
  cases e : hasK b' k with
  | false => rfl
  | true => have := h k (hasK_sub s hk); rw [hasK_sub t e] at this; cases this
theorem Dj.add {a b : List It} (h : Dj a b) {i : It} (hb : hasK b i.k = false) : Dj (a ++ [i]) b := fun k hk => by
  rw [hasK_append, hasK_one, Bool.or_eq_true] at hk
  rcases hk with hk | hk
  · exact h k hk
  · rw [← of_decide_eq_true hk]; exact hb
theorem Rg.sub {l l' : List It} (h : Rg l) (s : l'.Sublist l) : Rg l' := fun i hi => h i (s.subset hi)
theorem Rg.add {l : List It} (h : Rg l) {i : It} (hi : (0 ≤ i.k ∧ i.k < 8) ∧ 1 ≤ i.z ∧ i.z ≤ 5) : Rg (l ++ [i]) := fun j hj => by
  rcases List.mem_append.mp hj with hj | hj
  · exact h j hj
  · rw [List.mem_singleton.mp hj]; exact hi
theorem keysNd_add {l : List It} (h : keysNd l) {i : It} (hi : hasK l i.k = false) : keysNd (l ++ [i]) := by
  unfold keysNd at h ⊢
  rw [List.map_append, List.nodup_append]
  refine ⟨h, by simp, ?_⟩
  intro a ha b hb
  simp only [List.map_cons, List.map_nil, List.mem_singleton] at hb
  subst hb
  obtain ⟨j, hj, rfl⟩ := List.mem_map.mp ha
  have := List.any_eq_false.mp hi j hj
  simpa using this

theorem nodup_range_len {l : List Int} (nd : l.Nodup) (h : ∀ k ∈ l, 0 ≤ k ∧ k < 8) : l.length ≤ 8 := by
  have key : ∀ n : Nat, ∀ l : List Int, l.Nodup → (∀ k ∈ l, 0 ≤ k ∧ k < (n : Int)) → l.length ≤ n := by
    intro n
    induction n with
    | zero =>
      intro l _ h
      cases l with
      | nil => simp
      | cons a r => have := h a List.mem_cons_self; omega
    | succ n ih =>
      intro l nd h
      have e : (l.filter fun k => decide (k ≠ (n : Int))).length ≤ n := by
        refine ih _ (nd.sublist List.filter_sublist) fun k hk => ?_
        obtain ⟨h1, h2⟩ := List.mem_filter.mp hk
        have := h k h1
        have h2 := of_decide_eq_true h2
        omega
      have c : (l.filter fun k => decide (k = (n : Int))).length ≤ 1 := by
        have : (l.filter fun k => decide (k = (n : Int))).Nodup := nd.sublist List.filter_sublist
        cases q : l.filter fun k => decide (k = (n : Int)) with
        | nil => simp
        | cons a r =>
          cases r with
          | nil => simp
          | cons b r =>
            exfalso
            rw [q] at this
            have ma : a ∈ l.filter fun k => decide (k = (n : Int)) := by rw [q]; simp
            have mb : b ∈ l.filter fun k => decide (k = (n : Int)) := by rw [q]; simp
            have ha : a = (n : Int) := by simpa using (List.mem_filter.mp ma).2
            have hb : b = (n : Int) := by simpa using (List.mem_filter.mp mb).2
            simp [ha, hb] at this
      have s : l.length = (l.filter fun k => decide (k = (n : Int))).length + (l.filter fun k => decide (k ≠ (n : Int))).length := by
        clear e c nd h ih
        induction l with
        | nil => rfl
        | cons a r ih => by_cases q : a = (n : Int) <;> simp [q, ih] <;> omega
      omega
  exact key 8 l nd (by simpa using h)

theorem len8 {l : List It} (nd : keysNd l) (g : Rg l) : l.length ≤ 8 := by
  have := nodup_range_len nd (fun k hk => by obtain ⟨i, hi, rfl⟩ := List.mem_map.mp hk; exact (g i hi).1)
  simpa using this
theorem total_nn {l : List It} (g : Rg l) : 0 ≤ total l ∧ total l ≤ l.length * 5 := by
  induction l with
  | nil => simp [total]
  | cons i r ih =>
    have := ih (fun j hj => g j (List.mem_cons_of_mem _ hj))
    have gi := (g i List.mem_cons_self).2
    rw [total_cons]; simp only [List.length_cons]
    omega
theorem total40 {l : List It} (nd : keysNd l) (g : Rg l) : 0 ≤ total l ∧ total l ≤ 40 := by
  have := total_nn g; have := len8 nd g; omega

theorem Good.putOut {σ : St} (g : Good σ) (k : Int) : Good (putOut σ k) := by
  unfold Mine.putOut
  obtain ⟨n1, n2, n3, n4, d12, d13, d14, d23, d24, d34, g1, g2, g3, g4, hn, hr, mp, gp⟩ := g
  have r : ∀ l : List It, l.Sublist l := List.Sublist.refl
  split
  · rename_i i hi
    obtain ⟨him, rfl⟩ := findK_some hi
    have hk : hasK σ.rcn i.k = true := by rw [← findK_isSome, hi]; rfl
    have s := dropK_sub σ.rcn i.k
    have gi := g1 i him
    exact ⟨keysNd_sub n1 s, n2, keysNd_add (i := (⟨i.k, none, i.z⟩ : It)) n3 (d13 _ hk), n4, d12.sub s (r _), ((d13.symm.sub (r _) s).add (i := (⟨i.k, none, i.z⟩ : It)) (by simp [hasK_dropK])).symm, d14.sub s (r _), (d23.symm.add (i := (⟨i.k, none, i.z⟩ : It)) (d12 _ hk)).symm, d24, d34.add (i := (⟨i.k, none, i.z⟩ : It)) (d14 _ hk), g1.sub s, g2, g3.add (i := (⟨i.k, none, i.z⟩ : It)) gi, g4, hn, hr, mp, gp⟩
  · split
    · rename_i h0 i hi
      obtain ⟨him, rfl⟩ := findK_some hi
      have hk : hasK σ.oft i.k = true := by rw [← findK_isSome, hi]; rfl
      have s := dropK_sub σ.oft i.k
      have gi := g2 i him
      exact ⟨n1, keysNd_sub n2 s, n3, keysNd_add (i := (⟨i.k, none, i.z⟩ : It)) n4 (d24 _ hk), d12.sub (r _) s, d13, (d14.symm.add (i := (⟨i.k, none, i.z⟩ : It)) (d12.symm _ hk)).symm, d23.sub s (r _), ((d24.symm.sub (r _) s).add (i := (⟨i.k, none, i.z⟩ : It)) (by simp [hasK_dropK])).symm, (d34.symm.add (i := (⟨i.k, none, i.z⟩ : It)) (d23 _ hk)).symm, g1, g2.sub s, g3, g4.add (i := (⟨i.k, none, i.z⟩ : It)) gi, hn, hr, mp, gp⟩
    · exact ⟨n1, n2, n3, n4, d12, d13, d14, d23, d24, d34, g1, g2, g3, g4, hn, hr, mp, gp⟩
theorem Good.makeRoom : ∀ (n : Nat) {σ : St}, Good σ → ∀ z s, Good (makeRoom n σ z s)
  | 0, σ, g, _, _ => g
  | n + 1, σ, g, z, s => by
    unfold Mine.makeRoom
    split
    · split
      · exact g
      · exact Good.makeRoom n (g.putOut _) z s
    · exact g
theorem Good.forget {σ : St} (g : Good σ) (k : Int) : Good (forgetS σ k) := by
  unfold forgetS
  have r : ∀ l : List It, l.Sublist l := List.Sublist.refl
  have s := fun l => dropK_sub l k
  have g0 := g
  obtain ⟨n1, n2, n3, n4, d12, d13, d14, d23, d24, d34, g1, g2, g3, g4, hn, hr, mp, gp⟩ := g
  split
  · exact ⟨keysNd_sub n1 (s _), n2, n3, n4, d12.sub (s _) (r _), d13.sub (s _) (r _), d14.sub (s _) (r _), d23, d24, d34, g1.sub (s _), g2, g3, g4, hn, hr, mp, gp⟩
  · split
    · exact ⟨n1, keysNd_sub n2 (s _), n3, n4, d12.sub (r _) (s _), d13, d14, d23.sub (s _) (r _), d24.sub (s _) (r _), d34, g1, g2.sub (s _), g3, g4, hn, hr, mp, gp⟩
    · split
      · exact ⟨n1, n2, keysNd_sub n3 (s _), n4, d12, d13.sub (r _) (s _), d14, d23.sub (r _) (s _), d24, d34.sub (s _) (r _), g1, g2, g3.sub (s _), g4, hn, hr, mp, gp⟩
      · split
        · exact ⟨n1, n2, n3, keysNd_sub n4 (s _), d12, d13, d14.sub (r _) (s _), d23, d24.sub (r _) (s _), d34.sub (r _) (s _), g1, g2, g3, g4.sub (s _), hn, hr, mp, gp⟩
        · exact g0
end Mine
end

section
open PySem PySem.W PyProof.Rows PySem.Calls
namespace Mine
structure CA where
  x : Addr
  d : Addr
  r1 : RA
  r2 : RA
  r3 : RA
  r4 : RA
  cx : Addr
  cd : Addr
  ha : Addr
def CA.part (κ : CA) : Nat → List Addr
  | 0 => [κ.x, κ.d]
  | 1 => κ.r1.all
  | 2 => κ.r2.all
  | 3 => κ.r3.all
  | 4 => κ.r4.all
  | 5 => [κ.cx, κ.cd]
  | 6 => [κ.ha]
  | _ => []
def CA.all (κ : CA) : List Addr := κ.part 0 ++ (κ.part 1 ++ (κ.part 2 ++ (κ.part 3 ++ (κ.part 4 ++ (κ.part 5 ++ κ.part 6)))))
theorem CA.sub (κ : CA) (i : Nat) : ∀ a ∈ κ.part i, a ∈ κ.all := by
  intro a ha
  unfold CA.all
  simp only [List.mem_append]
  match i, ha with
  | 0, ha => exact .inl ha
  | 1, ha => exact .inr (.inl ha)
  | 2, ha => exact .inr (.inr (.inl ha))
  | 3, ha => exact .inr (.inr (.inr (.inl ha)))
  | 4, ha => exact .inr (.inr (.inr (.inr (.inl ha))))
  | 5, ha => exact .inr (.inr (.inr (.inr (.inr (.inl ha)))))
  | 6, ha => exact .inr (.inr (.inr (.inr (.inr (.inr ha)))))
  | _ + 7, ha => cases ha
theorem CA.cases {κ : CA} {a : Addr} (h : a ∈ κ.all) : ∃ i, i < 7 ∧ a ∈ κ.part i := by
  unfold CA.all at h
  simp only [List.mem_append] at h
  rcases h with h | h | h | h | h | h | h
  · exact ⟨0, by decide, h⟩
  · exact ⟨1, by decide, h⟩
  · exact ⟨2, by decide, h⟩
  · exact ⟨3, by decide, h⟩
  · exact ⟨4, by decide, h⟩
  · exact ⟨5, by decide, h⟩
  · exact ⟨6, by decide, h⟩

abbrev cnAttrs (n : Cn) (t : Nat → Tok) : List (Str × Value) := [("recent_hits", .int n.rh (t 0)), ("often_hits", .int n.oh (t 1)), ("misses", .int n.ms (t 2)), ("recent_shadows", .int n.rs (t 3)), ("often_shadows", .int n.os (t 4)), ("put_out", .int n.po (t 5))]
abbrev caAttrs (κ : CA) (m g : Int) (t u : Tok) : List (Str × Value) := [("most", .int m t), ("goal", .int g u), ("recent", .ref κ.r1.x), ("often", .ref κ.r2.x), ("recent_gone", .ref κ.r3.x), ("often_gone", .ref κ.r4.x), ("held", .ref κ.ha), ("counts", .ref κ.cx)]
def CnAt (h : Heap) (κ : CA) (n : Cn) : Prop := ∃ t : Nat → Tok, Inst h κ.cx 138 κ.cd (cnAttrs n t)
def CaAt (h : Heap) (κ : CA) (m g : Int) : Prop := ∃ t u : Tok, Inst h κ.x 273 κ.d (caAttrs κ m g t u)

structure CacheAt (prog : Program) (w : World) (h : Heap) (κ : CA) (σ : St) : Prop where
  dj : ∀ i j, i ≠ j → ∀ a ∈ κ.part i, a ∉ κ.part j
  ne : κ.x ≠ κ.d ∧ κ.cx ≠ κ.cd
  lo : ∀ a ∈ κ.all, 350 ≤ a
  ca : CaAt h κ σ.most σ.goal
  a1 : RowAt prog w h κ.r1 σ.rcn
  a2 : RowAt prog w h κ.r2 σ.oft
  a3 : RowAt prog w h κ.r3 σ.rg
  a4 : RowAt prog w h κ.r4 σ.og
  cn : CnAt h κ σ.cn
  held : HeldAt prog w h κ.ha σ.held

section
variable {prog : Program} {w : World} {h h' : Heap} {κ : CA} {σ : St}
theorem CaAt.kept {S : List Addr} {m g : Int} (x : CaAt h κ m g) (k : Kept S h h') (hS : ∀ a ∈ κ.part 0, a ∉ S) : CaAt h' κ m g := by
  obtain ⟨t, u, I⟩ := x; exact ⟨t, u, I.kept k (hS _ List.mem_cons_self) (hS _ (.tail _ (.head _)))⟩
theorem CnAt.kept {S : List Addr} {n : Cn} (x : CnAt h κ n) (k : Kept S h h') (hS : ∀ a ∈ κ.part 5, a ∉ S) : CnAt h' κ n := by
  obtain ⟨t, I⟩ := x; exact ⟨t, I.kept k (hS _ List.mem_cons_self) (hS _ (.tail _ (.head _)))⟩
theorem CacheAt.kept {S : List Addr} (x : CacheAt prog w h κ σ) (k : Kept S h h') (hS : ∀ a ∈ κ.all, a ∉ S) : CacheAt prog w h' κ σ := by
  have p := fun i a (ha : a ∈ κ.part i) => hS a (κ.sub i a ha)
  exact ⟨x.dj, x.ne, x.lo, x.ca.kept k (p 0), x.a1.kept k (p 1), x.a2.kept k (p 2), x.a3.kept k (p 3), x.a4.kept k (p 4), x.cn.kept k (p 5), x.held.kept k (p 6 _ List.mem_cons_self)⟩
theorem CacheAt.kept0 (x : CacheAt prog w h κ σ) (k : Kept [] h h') : CacheAt prog w h' κ σ := x.kept k (by simp)
theorem CacheAt.lt (x : CacheAt prog w h κ σ) : ∀ a ∈ κ.all, a < h.objs.size := by
  intro a ha
  obtain ⟨i, hi, ha⟩ := CA.cases ha
  match i, ha with
  | 0, ha =>
    obtain ⟨t, u, I⟩ := x.ca
    rcases List.mem_cons.mp ha with rfl | ha
    · exact I.lt.1
    · rw [List.mem_singleton.mp ha]; exact I.lt.2
  | 1, ha => exact x.a1.lt a ha
  | 2, ha => exact x.a2.lt a ha
  | 3, ha => exact x.a3.lt a ha
  | 4, ha => exact x.a4.lt a ha
  | 5, ha =>
    obtain ⟨t, I⟩ := x.cn
    rcases List.mem_cons.mp ha with rfl | ha
    · exact I.lt.1
    · rw [List.mem_singleton.mp ha]; exact I.lt.2
  | 6, ha => rw [List.mem_singleton.mp ha]; exact x.held.lt
  | _ + 7, ha => cases ha
theorem CacheAt.set1 {l : List It} (x : CacheAt prog w h κ σ) (k : Kept κ.r1.all h h') (p : RowAt prog w h' κ.r1 l) : CacheAt prog w h' κ { σ with rcn := l } :=
  ⟨x.dj, x.ne, x.lo, x.ca.kept k (x.dj 0 1 (by decide)), p, x.a2.kept k (x.dj 2 1 (by decide)), x.a3.kept k (x.dj 3 1 (by decide)), x.a4.kept k (x.dj 4 1 (by decide)), x.cn.kept k (x.dj 5 1 (by decide)), x.held.kept k (x.dj 6 1 (by decide) _ List.mem_cons_self)⟩
theorem CacheAt.set2 {l : List It} (x : CacheAt prog w h κ σ) (k : Kept κ.r2.all h h') (p : RowAt prog w h' κ.r2 l) : CacheAt prog w h' κ { σ with oft := l } :=
  ⟨x.dj, x.ne, x.lo, x.ca.kept k (x.dj 0 2 (by decide)), x.a1.kept k (x.dj 1 2 (by decide)), p, x.a3.kept k (x.dj 3 2 (by decide)), x.a4.kept k (x.dj 4 2 (by decide)), x.cn.kept k (x.dj 5 2 (by decide)), x.held.kept k (x.dj 6 2 (by decide) _ List.mem_cons_self)⟩
theorem CacheAt.set3 {l : List It} (x : CacheAt prog w h κ σ) (k : Kept κ.r3.all h h') (p : RowAt prog w h' κ.r3 l) : CacheAt prog w h' κ { σ with rg := l } :=
  ⟨x.dj, x.ne, x.lo, x.ca.kept k (x.dj 0 3 (by decide)), x.a1.kept k (x.dj 1 3 (by decide)), x.a2.kept k (x.dj 2 3 (by decide)), p, x.a4.kept k (x.dj 4 3 (by decide)), x.cn.kept k (x.dj 5 3 (by decide)), x.held.kept k (x.dj 6 3 (by decide) _ List.mem_cons_self)⟩
theorem CacheAt.set4 {l : List It} (x : CacheAt prog w h κ σ) (k : Kept κ.r4.all h h') (p : RowAt prog w h' κ.r4 l) : CacheAt prog w h' κ { σ with og := l } :=
  ⟨x.dj, x.ne, x.lo, x.ca.kept k (x.dj 0 4 (by decide)), x.a1.kept k (x.dj 1 4 (by decide)), x.a2.kept k (x.dj 2 4 (by decide)), x.a3.kept k (x.dj 3 4 (by decide)), p, x.cn.kept k (x.dj 5 4 (by decide)), x.held.kept k (x.dj 6 4 (by decide) _ List.mem_cons_self)⟩
theorem CacheAt.setCa {m g : Int} (x : CacheAt prog w h κ σ) (k : Kept [κ.d] h h') (p : CaAt h' κ m g) : CacheAt prog w h' κ { σ with most := m, goal := g } := by
  have n : ∀ j, j ≠ 0 → ∀ a ∈ κ.part j, a ∉ [κ.d] := fun j hj a ha q => x.dj j 0 hj a ha (by rw [List.mem_singleton.mp q]; exact .tail _ (.head _))
  exact ⟨x.dj, x.ne, x.lo, p, x.a1.kept k (n 1 (by decide)), x.a2.kept k (n 2 (by decide)), x.a3.kept k (n 3 (by decide)), x.a4.kept k (n 4 (by decide)), x.cn.kept k (n 5 (by decide)), x.held.kept k (n 6 (by decide) _ List.mem_cons_self)⟩
theorem CacheAt.setCn {m : Cn} (x : CacheAt prog w h κ σ) (k : Kept [κ.cd] h h') (p : CnAt h' κ m) : CacheAt prog w h' κ { σ with cn := m } := by
  have n : ∀ j, j ≠ 5 → ∀ a ∈ κ.part j, a ∉ [κ.cd] := fun j hj a ha q => x.dj j 5 hj a ha (by rw [List.mem_singleton.mp q]; exact .tail _ (.head _))
  exact ⟨x.dj, x.ne, x.lo, x.ca.kept k (n 0 (by decide)), x.a1.kept k (n 1 (by decide)), x.a2.kept k (n 2 (by decide)), x.a3.kept k (n 3 (by decide)), x.a4.kept k (n 4 (by decide)), p, x.held.kept k (n 6 (by decide) _ List.mem_cons_self)⟩
theorem CacheAt.setHeld {l : List (Int × Int)} (x : CacheAt prog w h κ σ) (k : Kept [κ.ha] h h') (p : HeldAt prog w h' κ.ha l) : CacheAt prog w h' κ { σ with held := l } := by
  have n : ∀ j, j ≠ 6 → ∀ a ∈ κ.part j, a ∉ [κ.ha] := fun j hj a ha q => x.dj j 6 hj a ha (by rw [List.mem_singleton.mp q]; exact .head _)
  exact ⟨x.dj, x.ne, x.lo, x.ca.kept k (n 0 (by decide)), x.a1.kept k (n 1 (by decide)), x.a2.kept k (n 2 (by decide)), x.a3.kept k (n 3 (by decide)), x.a4.kept k (n 4 (by decide)), x.cn.kept k (n 5 (by decide)), p⟩
end

section
variable {prog : Program} {w : World} {c : Cx} {base h : Heap} {A : Around} {E : Value → Heap → Prop} {κ : CA} {m g : Int} {n : Cn} {Q : Value → Heap → Prop} {expr : Bool}
theorem cg_recent (B : Base w base) (kp : In0 base h) (x : CaAt h κ m g) (q : Q (.ref κ.r1.x) h) : W prog w c A (getAttr (.ref κ.x) "recent" expr) Q E h := by
  obtain ⟨t, u, I⟩ := x; exact w_ga B kp I rfl (by k_is) (by k_is) (by k_is) (by k_is) rfl q
theorem cg_often (B : Base w base) (kp : In0 base h) (x : CaAt h κ m g) (q : Q (.ref κ.r2.x) h) : W prog w c A (getAttr (.ref κ.x) "often" expr) Q E h := by
  obtain ⟨t, u, I⟩ := x; exact w_ga B kp I rfl (by k_is) (by k_is) (by k_is) (by k_is) rfl q
theorem cg_recent_gone (B : Base w base) (kp : In0 base h) (x : CaAt h κ m g) (q : Q (.ref κ.r3.x) h) : W prog w c A (getAttr (.ref κ.x) "recent_gone" expr) Q E h := by
  obtain ⟨t, u, I⟩ := x; exact w_ga B kp I rfl (by k_is) (by k_is) (by k_is) (by k_is) rfl q
theorem cg_often_gone (B : Base w base) (kp : In0 base h) (x : CaAt h κ m g) (q : Q (.ref κ.r4.x) h) : W prog w c A (getAttr (.ref κ.x) "often_gone" expr) Q E h := by
  obtain ⟨t, u, I⟩ := x; exact w_ga B kp I rfl (by k_is) (by k_is) (by k_is) (by k_is) rfl q
theorem cg_held (B : Base w base) (kp : In0 base h) (x : CaAt h κ m g) (q : Q (.ref κ.ha) h) : W prog w c A (getAttr (.ref κ.x) "held" expr) Q E h := by
  obtain ⟨t, u, I⟩ := x; exact w_ga B kp I rfl (by k_is) (by k_is) (by k_is) (by k_is) rfl q
theorem cg_counts (B : Base w base) (kp : In0 base h) (x : CaAt h κ m g) (q : Q (.ref κ.cx) h) : W prog w c A (getAttr (.ref κ.x) "counts" expr) Q E h := by
  obtain ⟨t, u, I⟩ := x; exact w_ga B kp I rfl (by k_is) (by k_is) (by k_is) (by k_is) rfl q
theorem cg_most (B : Base w base) (kp : In0 base h) (x : CaAt h κ m g) (q : ∀ t, Q (.int m t) h) : W prog w c A (getAttr (.ref κ.x) "most" expr) Q E h := by
  obtain ⟨t, u, I⟩ := x; exact w_ga B kp I rfl (by k_is) (by k_is) (by k_is) (by k_is) rfl (q _)
theorem cg_goal (B : Base w base) (kp : In0 base h) (x : CaAt h κ m g) (q : ∀ t, Q (.int g t) h) : W prog w c A (getAttr (.ref κ.x) "goal" expr) Q E h := by
  obtain ⟨t, u, I⟩ := x; exact w_ga B kp I rfl (by k_is) (by k_is) (by k_is) (by k_is) rfl (q _)
theorem cs_most {j : Int} {v : Tok} {Q : Unit → Heap → Prop} (B : Base w base) (kp : In0 base h) (ne : κ.x ≠ κ.d) (x : CaAt h κ m g) (q : ∀ h', CaAt h' κ j g → Kept [κ.d] h h' → Q () h') : W prog w c A (setAttr (.ref κ.x) "most" (.int j v)) Q E h := by
  obtain ⟨t, u, I⟩ := x; exact w_sa B kp I ne (by k_is) (by k_is) (by k_is) (by k_is) (Nat.le_of_ble_eq_true rfl) fun h' I' k => q h' ⟨_, _, I'⟩ k
theorem cs_goal {j : Int} {v : Tok} {Q : Unit → Heap → Prop} (B : Base w base) (kp : In0 base h) (ne : κ.x ≠ κ.d) (x : CaAt h κ m g) (q : ∀ h', CaAt h' κ m j → Kept [κ.d] h h' → Q () h') : W prog w c A (setAttr (.ref κ.x) "goal" (.int j v)) Q E h := by
  obtain ⟨t, u, I⟩ := x; exact w_sa B kp I ne (by k_is) (by k_is) (by k_is) (by k_is) (Nat.le_of_ble_eq_true rfl) fun h' I' k => q h' ⟨_, _, I'⟩ k
theorem kg_rh (B : Base w base) (kp : In0 base h) (x : CnAt h κ n) (q : ∀ t, Q (.int n.rh t) h) : W prog w c A (getAttr (.ref κ.cx) "recent_hits" expr) Q E h := by
  obtain ⟨t, I⟩ := x; exact w_ga B kp I rfl (by k_is) (by k_is) (by k_is) (by k_is) rfl (q _)
theorem ks_rh {j : Int} {v : Tok} {Q : Unit → Heap → Prop} (B : Base w base) (kp : In0 base h) (ne : κ.cx ≠ κ.cd) (x : CnAt h κ n) (q : ∀ h', CnAt h' κ { n with rh := j } → Kept [κ.cd] h h' → Q () h') : W prog w c A (setAttr (.ref κ.cx) "recent_hits" (.int j v)) Q E h := by
  obtain ⟨t, I⟩ := x; exact w_sa B kp I ne (by k_is) (by k_is) (by k_is) (by k_is) (Nat.le_of_ble_eq_true rfl) fun h' I' k => q h' ⟨fun i => if i = 0 then v else t i, I'⟩ k
theorem kg_oh (B : Base w base) (kp : In0 base h) (x : CnAt h κ n) (q : ∀ t, Q (.int n.oh t) h) : W prog w c A (getAttr (.ref κ.cx) "often_hits" expr) Q E h := by
  obtain ⟨t, I⟩ := x; exact w_ga B kp I rfl (by k_is) (by k_is) (by k_is) (by k_is) rfl (q _)
theorem ks_oh {j : Int} {v : Tok} {Q : Unit → Heap → Prop} (B : Base w base) (kp : In0 base h) (ne : κ.cx ≠ κ.cd) (x : CnAt h κ n) (q : ∀ h', CnAt h' κ { n with oh := j } → Kept [κ.cd] h h' → Q () h') : W prog w c A (setAttr (.ref κ.cx) "often_hits" (.int j v)) Q E h := by
  obtain ⟨t, I⟩ := x; exact w_sa B kp I ne (by k_is) (by k_is) (by k_is) (by k_is) (Nat.le_of_ble_eq_true rfl) fun h' I' k => q h' ⟨fun i => if i = 1 then v else t i, I'⟩ k
theorem kg_ms (B : Base w base) (kp : In0 base h) (x : CnAt h κ n) (q : ∀ t, Q (.int n.ms t) h) : W prog w c A (getAttr (.ref κ.cx) "misses" expr) Q E h := by
  obtain ⟨t, I⟩ := x; exact w_ga B kp I rfl (by k_is) (by k_is) (by k_is) (by k_is) rfl (q _)
theorem ks_ms {j : Int} {v : Tok} {Q : Unit → Heap → Prop} (B : Base w base) (kp : In0 base h) (ne : κ.cx ≠ κ.cd) (x : CnAt h κ n) (q : ∀ h', CnAt h' κ { n with ms := j } → Kept [κ.cd] h h' → Q () h') : W prog w c A (setAttr (.ref κ.cx) "misses" (.int j v)) Q E h := by
  obtain ⟨t, I⟩ := x; exact w_sa B kp I ne (by k_is) (by k_is) (by k_is) (by k_is) (Nat.le_of_ble_eq_true rfl) fun h' I' k => q h' ⟨fun i => if i = 2 then v else t i, I'⟩ k
theorem kg_rs (B : Base w base) (kp : In0 base h) (x : CnAt h κ n) (q : ∀ t, Q (.int n.rs t) h) : W prog w c A (getAttr (.ref κ.cx) "recent_shadows" expr) Q E h := by
  obtain ⟨t, I⟩ := x; exact w_ga B kp I rfl (by k_is) (by k_is) (by k_is) (by k_is) rfl (q _)
theorem ks_rs {j : Int} {v : Tok} {Q : Unit → Heap → Prop} (B : Base w base) (kp : In0 base h) (ne : κ.cx ≠ κ.cd) (x : CnAt h κ n) (q : ∀ h', CnAt h' κ { n with rs := j } → Kept [κ.cd] h h' → Q () h') : W prog w c A (setAttr (.ref κ.cx) "recent_shadows" (.int j v)) Q E h := by
  obtain ⟨t, I⟩ := x; exact w_sa B kp I ne (by k_is) (by k_is) (by k_is) (by k_is) (Nat.le_of_ble_eq_true rfl) fun h' I' k => q h' ⟨fun i => if i = 3 then v else t i, I'⟩ k
theorem kg_os (B : Base w base) (kp : In0 base h) (x : CnAt h κ n) (q : ∀ t, Q (.int n.os t) h) : W prog w c A (getAttr (.ref κ.cx) "often_shadows" expr) Q E h := by
  obtain ⟨t, I⟩ := x; exact w_ga B kp I rfl (by k_is) (by k_is) (by k_is) (by k_is) rfl (q _)
theorem ks_os {j : Int} {v : Tok} {Q : Unit → Heap → Prop} (B : Base w base) (kp : In0 base h) (ne : κ.cx ≠ κ.cd) (x : CnAt h κ n) (q : ∀ h', CnAt h' κ { n with os := j } → Kept [κ.cd] h h' → Q () h') : W prog w c A (setAttr (.ref κ.cx) "often_shadows" (.int j v)) Q E h := by
  obtain ⟨t, I⟩ := x; exact w_sa B kp I ne (by k_is) (by k_is) (by k_is) (by k_is) (Nat.le_of_ble_eq_true rfl) fun h' I' k => q h' ⟨fun i => if i = 4 then v else t i, I'⟩ k
theorem kg_po (B : Base w base) (kp : In0 base h) (x : CnAt h κ n) (q : ∀ t, Q (.int n.po t) h) : W prog w c A (getAttr (.ref κ.cx) "put_out" expr) Q E h := by
  obtain ⟨t, I⟩ := x; exact w_ga B kp I rfl (by k_is) (by k_is) (by k_is) (by k_is) rfl (q _)
theorem ks_po {j : Int} {v : Tok} {Q : Unit → Heap → Prop} (B : Base w base) (kp : In0 base h) (ne : κ.cx ≠ κ.cd) (x : CnAt h κ n) (q : ∀ h', CnAt h' κ { n with po := j } → Kept [κ.cd] h h' → Q () h') : W prog w c A (setAttr (.ref κ.cx) "put_out" (.int j v)) Q E h := by
  obtain ⟨t, I⟩ := x; exact w_sa B kp I ne (by k_is) (by k_is) (by k_is) (by k_is) (Nat.le_of_ble_eq_true rfl) fun h' I' k => q h' ⟨fun i => if i = 5 then v else t i, I'⟩ k
end
end Mine
end

section
open PySem PySem.W PyProof.Rows PySem.Calls
namespace Mine
theorem Kept.fin {S : List Addr} {h h' : Heap} (k : Kept (S ++ [h.objs.size]) h h') : Kept S h h' := k.drop (by intro a ha; rw [List.mem_singleton.mp ha]; exact fresh_none h)
theorem inl {S T : List Addr} : ∀ a ∈ S, a ∈ S ++ T := fun _ h => List.mem_append_left _ h
theorem inr {S T : List Addr} : ∀ a ∈ T, a ∈ S ++ T := fun _ h => List.mem_append_right _ h
theorem notL {S : List Addr} {L : Addr} (hL : L ∉ S) : ∀ a ∈ S, a ∉ [L] := fun a ha m => hL (by rw [← List.mem_singleton.mp m]; exact ha)
theorem CA.in0 (κ : CA) (i : Nat) {T : List Addr} : ∀ a ∈ κ.part i, a ∈ κ.all ++ T := fun a ha => inl a (κ.sub i a ha)
theorem CA.d0 (κ : CA) {T : List Addr} : ∀ a ∈ [κ.d], a ∈ κ.all ++ T := fun a ha => κ.in0 0 a (by rw [List.mem_singleton.mp ha]; exact .tail _ (.head _))
theorem CA.cd0 (κ : CA) {T : List Addr} : ∀ a ∈ [κ.cd], a ∈ κ.all ++ T := fun a ha => κ.in0 5 a (by rw [List.mem_singleton.mp ha]; exact .tail _ (.head _))
theorem CA.ha0 (κ : CA) {T : List Addr} : ∀ a ∈ [κ.ha], a ∈ κ.all ++ T := fun a ha => κ.in0 6 a (by rw [List.mem_singleton.mp ha]; exact .head _)
theorem CA.d1 (κ : CA) : ∀ a ∈ [κ.d], a ∈ κ.all := fun a ha => κ.sub 0 a (by rw [List.mem_singleton.mp ha]; exact .tail _ (.head _))
theorem CA.cd1 (κ : CA) : ∀ a ∈ [κ.cd], a ∈ κ.all := fun a ha => κ.sub 5 a (by rw [List.mem_singleton.mp ha]; exact .tail _ (.head _))
theorem CA.ha1 (κ : CA) : ∀ a ∈ [κ.ha], a ∈ κ.all := fun a ha => κ.sub 6 a (by rw [List.mem_singleton.mp ha]; exact .head _)

theorem Good.l1 {σ : St} (g : Good σ) : σ.rcn.length ≤ 8 := len8 g.n1 g.g1
theorem Good.l2 {σ : St} (g : Good σ) : σ.oft.length ≤ 8 := len8 g.n2 g.g2
theorem Good.l3 {σ : St} (g : Good σ) : σ.rg.length ≤ 8 := len8 g.n3 g.g3
theorem Good.l4 {σ : St} (g : Good σ) : σ.og.length ≤ 8 := len8 g.n4 g.g4

section
variable {prog : Program} {w : World} {c : Cx} {base h : Heap} {A : Around} {R : Result → Heap → Prop} {κ : CA} {σ : St}

theorem c_ca_has {k : Int} {kt : Tok} (B : Base w base) (kp : In0 base h) (room : Room A 2) (x : CacheAt prog w h κ σ)
    (q : ∀ h', Kept [] h h' → R (.ok (.ret (.bool (hasS σ k)))) h') : C prog w c A (.call (.ref 163) ⟨[.ref κ.x, .int k kt], []⟩) R h := by
  refine cf [("self", .ref κ.x), ("key", .int k kt)] B kp room (by k_is) (by k_is) (fun _ _ => BindsTo.of_eq rfl) (locs rfl) (fun h₁ F k₁ => ?_)
  have x₁ := x.kept0 k₁
  refine w_cons (w_Return (w_Or2 (r_has B room.deeper (w_Attr (w_ld F rfl (cg_recent B F.keep x₁.ca ⟨κ.r1, σ.rcn, rfl, F.keep, x₁.a1, w_ld F rfl ⟨k, kt, rfl, F.keep, x₁.a1, fun h₂ k₂ => w_truthy ?_⟩⟩))))))
  have F₂ := fk0 F k₂
  have x₂ := x₁.kept0 k₂
  cases e : hasK σ.rcn k with
  | true =>
    first | refine if_yes (by rfl) ?_ | simp only [if_true]
    have := q h₂ (k₁.trans k₂)
    rwa [hasS, e, Bool.true_or] at this
  | false =>
    first | refine if_no (by rfl) ?_ | simp only [Bool.false_eq_true, if_false]
    refine r_has B room.deeper (w_Attr (w_ld F₂ rfl (cg_often B F₂.keep x₂.ca ⟨κ.r2, σ.oft, rfl, F₂.keep, x₂.a2, w_ld F₂ rfl ⟨k, kt, rfl, F₂.keep, x₂.a2, fun h₃ k₃ => ?_⟩⟩)))
    have := q h₃ ((k₁.trans k₂).trans k₃)
    rwa [hasS, e, Bool.false_or] at this

theorem c_ca_get {k : Int} {kt : Tok} (B : Base w base) (kp : In0 base h) (room : Room A 3) (x : CacheAt prog w h κ σ) (g : Good σ)
    (q : ∀ h' V, Kept κ.all h h' → CacheAt prog w h' κ (getS σ k).1 → Val V (getS σ k).2 → R (.ok (.ret V)) h') : C prog w c A (.call (.ref 170) ⟨[.ref κ.x, .int k kt], []⟩) R h := by
  refine cf [("self", .ref κ.x), ("key", .int k kt)] B kp room (by k_is) (by k_is) (fun _ _ => BindsTo.of_eq rfl) (locs rfl) (fun h₁ F k₁ => ?_)
  have hL := not_mem_of_lt x.lt
  have x₁ := x.kept0 k₁
  refine w_cons (w_If (w_tval (r_has B room.deeper (w_Attr (w_ld F rfl (cg_recent B F.keep x₁.ca ⟨κ.r1, σ.rcn, rfl, F.keep, x₁.a1, w_ld F rfl ⟨k, kt, rfl, F.keep, x₁.a1, fun h₂ k₂ => w_truthy ?_⟩⟩))))))
  have F₂ := fk0 F k₂
  have x₂ := x₁.kept0 k₂
  cases e : hasK σ.rcn k with
  | true =>
    first | refine if_yes (by rfl) ?_ | simp only [if_true]
    obtain ⟨i, hi⟩ := findK_has e
    -- self.counts.recent_hits = self.counts.recent_hits + 1
    refine w_cons (w_AssignAttr (w_BinOp (w_Attr (w_Attr (w_ld F₂ rfl (cg_counts B F₂.keep x₂.ca (kg_rh B F₂.keep x₂.cn fun t => w_int fun u => w_add fun t' => w_Attr (w_ld F₂ rfl (cg_counts B F₂.keep x₂.ca (ks_rh B F₂.keep x₂.ne.2 x₂.cn fun h₃ n₃ k₃ => ?_))))))))))
    have x₃ := x₂.setCn k₃ n₃
    have F₃ := fk B F₂ (k₃.mono κ.cd1) hL x.lo
    -- value, size = self.recent.take(key)
    refine w_cons (w_AssignTuple (r_take B room.deeper (w_Attr (w_ld F₃ rfl (cg_recent B F₃.keep x₃.ca ⟨κ.r1, σ.rcn, rfl, F₃.keep, x₃.a1, w_ld F₃ rfl ⟨k, kt, i, rfl, F₃.keep, x₃.a1, hi, by have := g.l1; omega, fun h₄ a V zt k₄ r₄ ha p₄ hV => ?_⟩⟩)))))
    have x₄ := x₃.set1 k₄ r₄
    have F₄ := fk B F₃ (k₄.mono (κ.sub 1)) hL x.lo
    refine w_unpack2 room.hand p₄ fun h₅ k₅ => w_st (fk0 F₄ k₅) fun h₆ F₆ k₆ => w_st F₆ fun h₇ F₇ k₇ => ?_
    have x₇ := ((x₄.kept0 k₅).kept k₆ (notL hL)).kept k₇ (notL hL)
    -- self.often.add(key, value, size)
    have hk : hasK σ.oft k = false := g.d12 k e
    refine w_cons (w_Expr (r_add B room.deeper (w_Attr (w_ld F₇ rfl (cg_often B F₇.keep x₇.ca ⟨κ.r2, σ.oft, rfl, F₇.keep, x₇.a2, w_ld F₇ rfl (w_ld F₇ rfl (w_ld F₇ rfl ⟨k, kt, i.v, i.z, zt, rfl, rfl, hV, F₇.keep, x₇.a2, hk, by have := g.l2; omega, fun h₈ k₈ r₈ => ⟨trivial, ?_⟩⟩))⟩)))))
    have x₈ := x₇.set2 k₈ r₈
    have F₈ := fk B F₇ (k₈.mono (κ.sub 2)) hL x.lo
    refine w_cons (w_Return (w_ld F₈ rfl (q h₈ V ?_ ?_ ?_)))
    · exact Kept.fin (((((((k₁.nil.trans k₂.nil).trans (k₃.mono κ.cd0)).trans (k₄.mono (κ.in0 1))).trans k₅.nil).trans (k₆.mono inr)).trans (k₇.mono inr)).trans (k₈.mono (κ.in0 2)))
    · simp only [getS, hi]; exact x₈
    · simp only [getS, hi]; exact hV
  | false =>
    first | refine if_no (by rfl) ?_ | simp only [Bool.false_eq_true, if_false]
    have hn := findK_none.mpr e
    refine w_nil (w_cons (w_If (w_tval (r_has B room.deeper (w_Attr (w_ld F₂ rfl (cg_often B F₂.keep x₂.ca ⟨κ.r2, σ.oft, rfl, F₂.keep, x₂.a2, w_ld F₂ rfl ⟨k, kt, rfl, F₂.keep, x₂.a2, fun h₃ k₃ => w_truthy ?_⟩⟩)))))))
    have F₃ := fk0 F₂ k₃
    have x₃ := x₂.kept0 k₃
    cases e2 : hasK σ.oft k with
    | true =>
      first | refine if_yes (by rfl) ?_ | simp only [if_true]
      obtain ⟨i, hi⟩ := findK_has e2
      refine w_cons (w_AssignAttr (w_BinOp (w_Attr (w_Attr (w_ld F₃ rfl (cg_counts B F₃.keep x₃.ca (kg_oh B F₃.keep x₃.cn fun t => w_int fun u => w_add fun t' => w_Attr (w_ld F₃ rfl (cg_counts B F₃.keep x₃.ca (ks_oh B F₃.keep x₃.ne.2 x₃.cn fun h₄ n₄ k₄ => ?_))))))))))
      have x₄ := x₃.setCn k₄ n₄
      have F₄ := fk B F₃ (k₄.mono κ.cd1) hL x.lo
      refine w_cons (w_Return (r_touch B room.deeper (w_Attr (w_ld F₄ rfl (cg_often B F₄.keep x₄.ca ⟨κ.r2, σ.oft, rfl, F₄.keep, x₄.a2, w_ld F₄ rfl ⟨k, kt, i, rfl, F₄.keep, x₄.a2, hi, by have := g.l2; omega, fun h₅ V k₅ r₅ hV => ?_⟩⟩)))))
      have x₅ := x₄.set2 k₅ r₅
      refine q h₅ V ?_ ?_ ?_
      · exact Kept.fin ((((k₁.nil.trans k₂.nil).trans k₃.nil).trans (k₄.mono κ.cd0)).trans (k₅.mono (κ.in0 2)))
      · simp only [getS, hn, hi]; exact x₅
      · simp only [getS, hn, hi]; exact hV
    | false =>
      first | refine if_no (by rfl) ?_ | simp only [Bool.false_eq_true, if_false]
      have hn2 := findK_none.mpr e2
      refine w_nil (w_cons (w_AssignAttr (w_BinOp (w_Attr (w_Attr (w_ld F₃ rfl (cg_counts B F₃.keep x₃.ca (kg_ms B F₃.keep x₃.cn fun t => w_int fun u => w_add fun t' => w_Attr (w_ld F₃ rfl (cg_counts B F₃.keep x₃.ca (ks_ms B F₃.keep x₃.ne.2 x₃.cn fun h₄ n₄ k₄ => ?_)))))))))))
      have x₄ := x₃.setCn k₄ n₄
      refine w_cons (w_Return (w_none (q h₄ .none ?_ ?_ ?_)))
      · exact Kept.fin (((k₁.nil.trans k₂.nil).trans k₃.nil).trans (k₄.mono κ.cd0))
      · simp only [getS, hn, hn2]; exact x₄
      · simp only [getS, hn, hn2]; exact rfl
end
end Mine
end

section
open PySem PySem.W PyProof.Rows PySem.Calls
namespace Mine
section
variable {prog : Program} {w : World} {c : Cx} {A : Around} {E : Value → Heap → Prop} {base h : Heap} {env : Env}

/-- what a turn hands on -/
abbrev Turned (base : Heap) (L : Addr) (m : Str → Option Value) (names : List Str) (S : List Addr) (P : Heap → Prop) (Q : Flow → Heap → Prop) (h₂ : Heap) (f : Flow) (h₃ : Heap) : Prop := match f with
  | .next | .cont => P h₃ ∧ (∃ m₃, Fr base L h₃ m₃ ∧ ∀ y, y ∉ names → m₃ y = m y) ∧ Kept (L :: S) h₂ h₃
  | .brk => Q .next h₃
  | .ret v => Q (.ret v) h₃

/-- a for over a plain list or tuple inside a def: the frame stands at L, the body may change what stands at S -/
theorem w_ForF {x : Str} {xp pos : Pos} {iter : Expr} {body orelse : List Stmt} {Q : Flow → Heap → Prop} {L : Addr} (S : List Addr) (names : List Str) (B : Base w base) (hh : A.handled = none) (hx : x ∈ names)
    (y : W prog w c A (eval iter env) (fun v h₁ => ∃ l vs m, ∃ P : Nat → Heap → Prop, v = .ref l ∧ (PL h₁ l vs ∨ PT h₁ l vs) ∧ Fr base L h₁ m ∧ l ≠ L ∧ l ∉ S ∧ (∀ a ∈ S, a < h₁.objs.size ∧ a ≠ L) ∧
      (∀ h', Kept [] h₁ h' → P 0 h') ∧
      (∀ i h h' T, P i h → Kept T h h' → (∀ a ∈ T, a = L ∨ h₁.objs.size ≤ a) → P i h') ∧
      (∀ i v h₂ m₂, vs[i]? = some v → P i h₂ → Fr base L h₂ m₂ → (∀ y, y ∉ names → m₂ y = m y) → m₂ x = some v → Kept ([L, h₁.objs.size] ++ S) h₁ h₂ →
        W prog w c A (execs body env) (Turned base L m names S (P (i + 1)) Q h₂) NoE h₂) ∧
      (∀ h₂ m₂, P vs.length h₂ → Fr base L h₂ m₂ → (∀ y, y ∉ names → m₂ y = m y) → Kept ([L, h₁.objs.size] ++ S) h₁ h₂ → W prog w c A (execs orelse env) Q NoE h₂)) E h)
    (hs : ∀ x, foldedSetIterable iter env x = pure x := by intro _; rfl)
    (hL : env.locals = L := by rfl) (hl : env.kindOf x = some .local := by rfl) (hp : (env.scope.kind == .class || (env.scope.kind == .module && env.locals != env.globals)) = false := by rfl) :
    W prog w c A (exec (.For (.Name x xp) iter body orelse pos) env) Q E h := by
  refine w_ForL hh (y.post fun v h₁ q => ?_) hs
  obtain ⟨l, vs, m, P, rfl, pl, F, hlL, hlS, hS, p0, pst, turn, fin⟩ := q
  have hLs : L < h₁.objs.size := by obtain ⟨o, _, _, e, _⟩ := F.ns; exact Heap.lt_size e
  have hLI : L ≠ h₁.objs.size := Nat.ne_of_lt hLs
  have hls : l < h₁.objs.size := by rcases pl with pl | pl; exact pl.lt; exact pl.lt
  have hI : 350 ≤ h₁.objs.size := Nat.le_trans (by rw [← B.size]; exact F.above) (Nat.le_of_lt hLs)
  have hSI : ∀ a ∈ S, a ≠ h₁.objs.size := fun a ha => Nat.ne_of_lt (hS a ha).1
  refine ⟨l, vs, fun i h' => P i h' ∧ (∃ m', Fr base L h' m' ∧ ∀ y, y ∉ names → m' y = m y) ∧ Kept ([L, h₁.objs.size] ++ S) h₁ h', rfl, pl, fun h' k => ⟨p0 h' k, ⟨m, fk0 F k, fun _ _ => rfl⟩, k.nil⟩, ?_, ?_, ?_⟩
  · rintro i h' h'' ⟨p, ⟨m', F', e⟩, kk⟩ k
    exact ⟨pst _ _ _ _ p k (by intro a ha; rw [List.mem_singleton.mp ha]; exact .inr (Nat.le_refl _)), ⟨m', fk B F' k (by simpa using hLI) (by simpa using hI), e⟩, kk.trans (k.mono (by simp))⟩
  · rintro i v h' hv ⟨p, ⟨m', F', e⟩, kk⟩
    refine w_st F' (fun h₂ F₂ k₂ => ?_) hL hl hp
    have p₂ := pst _ _ _ _ p k₂ (by intro a ha; rw [List.mem_singleton.mp ha]; exact .inl rfl)
    refine (turn i v h₂ _ hv p₂ F₂ (fun y hy => ?_) (by simp [put]) (kk.trans (k₂.mono (by simp)))).post fun f h₃ q => ?_
    · have : y ≠ x := fun e => hy (e ▸ hx)
      (first | refine if_no (by first | rfl | simp only [put, this]) ?_ | simp only [put, this, if_false]); exact e y hy
    · have nn : l ∉ L :: S ∧ h₁.objs.size ∉ L :: S := ⟨by simp; exact ⟨hlL, hlS⟩, by simp; exact ⟨Ne.symm hLI, fun m => hSI _ m rfl⟩⟩
      cases f with
      | next => exact ⟨⟨q.1, q.2.1, (kk.trans (k₂.mono (by simp))).trans (q.2.2.mono (by simp; exact fun a ha => .inr (.inr ha)))⟩, L :: S, (k₂.mono (by simp)).trans q.2.2, nn⟩
      | cont => exact ⟨⟨q.1, q.2.1, (kk.trans (k₂.mono (by simp))).trans (q.2.2.mono (by simp; exact fun a ha => .inr (.inr ha)))⟩, L :: S, (k₂.mono (by simp)).trans q.2.2, nn⟩
      | brk => exact q
      | ret v => exact q
  · rintro h' ⟨p, ⟨m', F', e⟩, kk⟩
    exact fin h' m' p F' e kk

/-- a while inside a def -/
theorem w_WhileF {test : Expr} {body orelse : List Stmt} {pos : Pos} {Q : Flow → Heap → Prop} {L : Addr} {m : Str → Option Value} (S : List Addr) (names : List Str) (B : Base w base) (P : Nat → Heap → Prop) (F : Fr base L h m)
    (n : Nat) (p0 : P n h)
    (turn : ∀ i h₂ m₂, P i h₂ → Fr base L h₂ m₂ → (∀ y, y ∉ names → m₂ y = m y) → Kept (L :: S) h h₂ →
      W prog w c A (isTrue test env (eval test env)) (fun b h₃ => if b then W prog w c A (execs body env) (fun f h₄ => match f with
        | .next | .cont => (∃ j, j < i ∧ P j h₄) ∧ (∃ m₄, Fr base L h₄ m₄ ∧ ∀ y, y ∉ names → m₄ y = m y) ∧ Kept (L :: S) h₂ h₄
        | .brk => Q .next h₄
        | .ret v => Q (.ret v) h₄) NoE h₃ else W prog w c A (execs orelse env) Q NoE h₃) NoE h₂) :
    W prog w c A (exec (.While test body orelse pos) env) Q E h := by
  refine w_While (fun i h₂ => P i h₂ ∧ (∃ m₂, Fr base L h₂ m₂ ∧ ∀ y, y ∉ names → m₂ y = m y) ∧ Kept (L :: S) h h₂) (fun i h₂ ⟨p, ⟨m₂, F₂, e⟩, k⟩ => (turn i h₂ m₂ p F₂ e k).post fun b h₃ q => ?_) n ⟨p0, ⟨m, F, fun _ _ => rfl⟩, Kept.refl _ _⟩
  cases b with
  | false => exact q
  | true =>
    simp only [if_true] at q ⊢
    refine W.post q fun f h₄ q => ?_
    cases f with
    | next => obtain ⟨⟨j, hj, p⟩, f, kk⟩ := q; exact ⟨j, hj, p, f, k.trans kk⟩
    | cont => obtain ⟨⟨j, hj, p⟩, f, kk⟩ := q; exact ⟨j, hj, p, f, k.trans kk⟩
    | brk => exact q
    | ret v => exact q
end

section
variable {prog : Program} {w : World} {c : Cx} {A : Around} {E : Value → Heap → Prop} {base h : Heap} {env : Env}

/-- the same, what holds between the turns may hang on the frame -/
theorem w_ForM {x : Str} {xp pos : Pos} {iter : Expr} {body orelse : List Stmt} {Q : Flow → Heap → Prop} {L : Addr} (S : List Addr) (names : List Str) (B : Base w base) (hh : A.handled = none) (hx : x ∈ names)
    (y : W prog w c A (eval iter env) (fun v h₁ => ∃ l vs m, ∃ P : Nat → (Str → Option Value) → Heap → Prop, v = .ref l ∧ (PL h₁ l vs ∨ PT h₁ l vs) ∧ Fr base L h₁ m ∧ l ≠ L ∧ l ∉ S ∧ (∀ a ∈ S, a < h₁.objs.size ∧ a ≠ L) ∧
      (∀ h', Kept [] h₁ h' → P 0 m h') ∧
      (∀ i m h h' T, P i m h → Kept T h h' → (∀ a ∈ T, a = L ∨ h₁.objs.size ≤ a) → P i m h') ∧
      (∀ i m h v, P i m h → P i (put x v m) h) ∧
      (∀ i v h₂ m₂, vs[i]? = some v → P i m₂ h₂ → Fr base L h₂ m₂ → (∀ y, y ∉ names → m₂ y = m y) → m₂ x = some v → Kept ([L, h₁.objs.size] ++ S) h₁ h₂ →
        W prog w c A (execs body env) (fun f h₃ => match f with
          | .next | .cont => (∃ m₃, P (i + 1) m₃ h₃ ∧ Fr base L h₃ m₃ ∧ ∀ y, y ∉ names → m₃ y = m y) ∧ Kept (L :: S) h₂ h₃
          | .brk => Q .next h₃
          | .ret v => Q (.ret v) h₃) NoE h₂) ∧
      (∀ h₂ m₂, P vs.length m₂ h₂ → Fr base L h₂ m₂ → (∀ y, y ∉ names → m₂ y = m y) → Kept ([L, h₁.objs.size] ++ S) h₁ h₂ → W prog w c A (execs orelse env) Q NoE h₂)) E h)
    (hs : ∀ x, foldedSetIterable iter env x = pure x := by intro _; rfl)
    (hL : env.locals = L := by rfl) (hl : env.kindOf x = some .local := by rfl) (hp : (env.scope.kind == .class || (env.scope.kind == .module && env.locals != env.globals)) = false := by rfl) :
    W prog w c A (exec (.For (.Name x xp) iter body orelse pos) env) Q E h := by
  refine w_ForL hh (y.post fun v h₁ q => ?_) hs
  obtain ⟨l, vs, m, P, rfl, pl, F, hlL, hlS, hS, p0, pst, pput, turn, fin⟩ := q
  have hLs : L < h₁.objs.size := by obtain ⟨o, _, _, e, _⟩ := F.ns; exact Heap.lt_size e
  have hLI : L ≠ h₁.objs.size := Nat.ne_of_lt hLs
  have hI : 350 ≤ h₁.objs.size := Nat.le_trans (by rw [← B.size]; exact F.above) (Nat.le_of_lt hLs)
  have hSI : ∀ a ∈ S, a ≠ h₁.objs.size := fun a ha => Nat.ne_of_lt (hS a ha).1
  refine ⟨l, vs, fun i h' => (∃ m', P i m' h' ∧ Fr base L h' m' ∧ ∀ y, y ∉ names → m' y = m y) ∧ Kept ([L, h₁.objs.size] ++ S) h₁ h', rfl, pl, fun h' k => ⟨⟨m, p0 h' k, fk0 F k, fun _ _ => rfl⟩, k.nil⟩, ?_, ?_, ?_⟩
  · rintro i h' h'' ⟨⟨m', p, F', e⟩, kk⟩ k
    exact ⟨⟨m', pst _ _ _ _ _ p k (by intro a ha; rw [List.mem_singleton.mp ha]; exact .inr (Nat.le_refl _)), fk B F' k (by simpa using hLI) (by simpa using hI), e⟩, kk.trans (k.mono (by simp))⟩
  · rintro i v h' hv ⟨⟨m', p, F', e⟩, kk⟩
    refine w_st F' (fun h₂ F₂ k₂ => ?_) hL hl hp
    have p₂ := pput i m' _ v (pst _ _ _ _ _ p k₂ (by intro a ha; rw [List.mem_singleton.mp ha]; exact .inl rfl))
    refine (turn i v h₂ _ hv p₂ F₂ (fun y hy => ?_) (by simp [put]) (kk.trans (k₂.mono (by simp)))).post fun f h₃ q => ?_
    · have : y ≠ x := fun e => hy (e ▸ hx)
      (first | refine if_no (by first | rfl | simp only [put, this]) ?_ | simp only [put, this, if_false]); exact e y hy
    · have nn : l ∉ L :: S ∧ h₁.objs.size ∉ L :: S := ⟨by simp; exact ⟨hlL, hlS⟩, by simp; exact ⟨Ne.symm hLI, fun m => hSI _ m rfl⟩⟩
      cases f with
      | next => exact ⟨⟨q.1, (kk.trans (k₂.mono (by simp))).trans (q.2.mono (by simp; exact fun a ha => .inr (.inr ha)))⟩, L :: S, (k₂.mono (by simp)).trans q.2, nn⟩
      | cont => exact ⟨⟨q.1, (kk.trans (k₂.mono (by simp))).trans (q.2.mono (by simp; exact fun a ha => .inr (.inr ha)))⟩, L :: S, (k₂.mono (by simp)).trans q.2, nn⟩
      | brk => exact q
      | ret v => exact q
  · rintro h' ⟨⟨m', p, F', e⟩, kk⟩
    exact fin h' m' p F' e kk

theorem cell_kept {S : List Addr} {h h' : Heap} {a : Addr} {v : Option Value} (x : h.IsCell a v) (k : Kept S h h') (ha : a ∉ S) : h'.IsCell a v := by
  obtain ⟨o, e, r⟩ := x; exact ⟨o, k _ _ e ha, r⟩
theorem cell_lt {h : Heap} {a : Addr} {v : Option Value} (x : h.IsCell a v) : a < h.objs.size := by
  obtain ⟨o, e, r⟩ := x; exact Heap.lt_size e
end
end Mine
end

section
open PySem PySem.W PyProof.Rows PySem.Calls
namespace Mine
section
variable {prog : Program} {w : World} {c : Cx} {A : Around} {E : Value → Heap → Prop} {base h : Heap} {env : Env}

/-- a for over a plain list or tuple inside a def; what holds between the turns may know the iterator's address -/
theorem w_ForT {x : Str} {xp pos : Pos} {iter : Expr} {body orelse : List Stmt} {Q : Flow → Heap → Prop} {L : Addr} (S : List Addr) (names : List Str) (B : Base w base) (hh : A.handled = none) (hx : x ∈ names)
    (y : W prog w c A (eval iter env) (fun v h₁ => ∃ l vs m, ∃ P : Nat → Heap → Prop, v = .ref l ∧ (PL h₁ l vs ∨ PT h₁ l vs) ∧ Fr base L h₁ m ∧ l ≠ L ∧ l ∉ S ∧ (∀ a ∈ S, a < h₁.objs.size ∧ a ≠ L) ∧
      (∀ h', Kept [] h₁ h' → P 0 h') ∧
      (∀ i h h' T, P i h → Kept T h h' → (∀ a ∈ T, a = L ∨ a = h₁.objs.size) → P i h') ∧
      (∀ i v h₂ m₂, vs[i]? = some v → P i h₂ → Fr base L h₂ m₂ → (∀ y, y ∉ names → m₂ y = m y) → m₂ x = some v → Kept ([L, h₁.objs.size] ++ S) h₁ h₂ → h₁.objs.size < h₂.objs.size →
        W prog w c A (execs body env) (Turned base L m names S (P (i + 1)) Q h₂) NoE h₂) ∧
      (∀ h₂ m₂, P vs.length h₂ → Fr base L h₂ m₂ → (∀ y, y ∉ names → m₂ y = m y) → Kept ([L, h₁.objs.size] ++ S) h₁ h₂ → W prog w c A (execs orelse env) Q NoE h₂)) E h)
    (hs : ∀ x, foldedSetIterable iter env x = pure x := by intro _; rfl)
    (hL : env.locals = L := by rfl) (hl : env.kindOf x = some .local := by rfl) (hp : (env.scope.kind == .class || (env.scope.kind == .module && env.locals != env.globals)) = false := by rfl) :
    W prog w c A (exec (.For (.Name x xp) iter body orelse pos) env) Q E h := by
  refine w_For (y.post fun v h₁ q => ?_) hs
  obtain ⟨l, vs, m, P, rfl, pl, F, hlL, hlS, hS, p0, pst, turn, fin⟩ := q
  have hLs : L < h₁.objs.size := by obtain ⟨o, _, _, e, _⟩ := F.ns; exact Heap.lt_size e
  have hLI : L ≠ h₁.objs.size := Nat.ne_of_lt hLs
  have hI : 350 ≤ h₁.objs.size := Nat.le_trans (by rw [← B.size]; exact F.above) (Nat.le_of_lt hLs)
  have hSI : ∀ a ∈ S, a ≠ h₁.objs.size := fun a ha => Nat.ne_of_lt (hS a ha).1
  have hls : l < h₁.objs.size := by rcases pl with pl | pl; exact pl.lt; exact pl.lt
  have hlI := Nat.ne_of_lt hls
  -- for either kind of sequence
  have key : ∀ (St : Nat → Heap → Prop) (h₂ : Heap) (Pv : Nat → Value → Prop), Kept [] h₁ h₂ → Walks prog w A h₁.objs.size [h₁.objs.size, l] [h₁.objs.size] vs.length Pv St → (∀ i v, Pv i v → vs[i]? = some v) → St 0 h₂ → (∀ i h', St i h' → h₁.objs.size < h'.objs.size) →
      ∃ I fp wr n P' St, ∃ Inv : Nat → Heap → Prop, (Value.ref h₁.objs.size : Value) = .ref I ∧ Walks prog w A I fp wr n P' St ∧ St 0 h₂ ∧ Inv 0 h₂ ∧
      (∀ i h h', Inv i h → Kept wr h h' → Inv i h') ∧
      (∀ i v h, i < n → P' i v → St (i + 1) h → Inv i h → W prog w c A (storeName env x v) (fun _ h₂ => W prog w c A (execs body env) (fun f h₃ => match f with
        | .next | .cont => Inv (i + 1) h₃ ∧ (∀ b ∈ fp, ∀ o, h.get? b = some o → h₃.get? b = some o)
        | .brk => Q .next h₃
        | .ret v => Q (.ret v) h₃) NoE h₂) NoE h) ∧
      (∀ h, Inv n h → W prog w c A (execs orelse env) Q NoE h) := by
    intro St h₂ Pv k₂ Wk hPv st0 hsz
    refine ⟨_, _, _, _, _, _, fun i h' => P i h' ∧ (∃ m', Fr base L h' m' ∧ ∀ y, y ∉ names → m' y = m y) ∧ Kept ([L, h₁.objs.size] ++ S) h₁ h', rfl, Wk, st0, ⟨p0 _ k₂, ⟨m, fk0 F k₂, fun _ _ => rfl⟩, k₂.nil⟩, ?_, ?_, ?_⟩
    · rintro i h' h'' ⟨p, ⟨m', F', e⟩, kk⟩ k
      exact ⟨pst _ _ _ _ p k (by intro a ha; exact .inr (List.mem_singleton.mp ha)), ⟨m', fk B F' k (by simpa using hLI) (by simpa using hI), e⟩, kk.trans (k.mono (by simp))⟩
    · rintro i v h' hi hp' st ⟨p, ⟨m', F', e⟩, kk⟩
      have hIs := hsz _ _ st
      refine w_st F' (fun h₂ F₂ k₂ => ?_) hL hl hp
      have p₂ := pst _ _ _ _ p k₂ (by intro a ha; exact .inl (List.mem_singleton.mp ha))
      have hst2 : St (i + 1) h₂ := Wk.frame _ _ _ st fun b hb o e => k₂ b o e (by
        simp only [List.mem_cons, List.not_mem_nil, or_false] at hb
        simp only [List.mem_singleton]
        rcases hb with rfl | rfl
        · exact Ne.symm hLI
        · exact hlL)
      refine (turn i v h₂ _ (hPv i v hp') p₂ F₂ (fun y hy => ?_) (by simp [put]) (kk.trans (k₂.mono (by simp))) (hsz _ _ hst2)).post fun f h₃ q => ?_
      · have : y ≠ x := fun e => hy (e ▸ hx)
        (first | refine if_no (by first | rfl | simp only [put, this]) ?_ | simp only [put, this, if_false]); exact e y hy
      · have nn : ∀ b ∈ [h₁.objs.size, l], b ∉ L :: S := fun b hb => by
          simp only [List.mem_cons, List.not_mem_nil, or_false] at hb ⊢
          rcases hb with rfl | rfl
          · exact fun m => m.elim (fun e => hLI e.symm) fun m => hSI _ m rfl
          · exact fun m => m.elim hlL hlS
        have kk3 : Kept (L :: S) h₂ h₃ → ∀ b ∈ [h₁.objs.size, l], ∀ o, h'.get? b = some o → h₃.get? b = some o := fun k b hb o e => k b o (k₂ b o e (by simp; exact fun e => nn b hb (by rw [e]; exact List.mem_cons_self))) (nn b hb)
        cases f with
        | next => exact ⟨⟨q.1, q.2.1, (kk.trans (k₂.mono (by simp))).trans (q.2.2.mono (by simp; exact fun a ha => .inr (.inr ha)))⟩, kk3 q.2.2⟩
        | cont => exact ⟨⟨q.1, q.2.1, (kk.trans (k₂.mono (by simp))).trans (q.2.2.mono (by simp; exact fun a ha => .inr (.inr ha)))⟩, kk3 q.2.2⟩
        | brk => exact q
        | ret v => exact q
    · rintro h' ⟨p, ⟨m', F', e⟩, kk⟩
      exact fin h' m' p F' e kk
  rcases pl with pl | pl
  · refine w_iterL pl fun h₂ k₂ it lt => ?_
    exact key _ h₂ _ k₂ (Walks.list hh h₁.objs.size l hlI vs.toArray) (fun i v e => by simpa using e) ⟨it, (pl.kept k₂ (by simp)).isList⟩ fun i h' st => by obtain ⟨⟨o, e, _⟩, _⟩ := st; exact Heap.lt_size e
  · refine w_iterT pl fun h₂ k₂ it lt => ?_
    exact key _ h₂ _ k₂ (Walks.tuple hh h₁.objs.size l hlI vs.toArray) (fun i v e => by simpa using e) ⟨it, (pl.kept k₂ (by simp)).isTuple⟩ fun i h' st => by obtain ⟨⟨o, e, _⟩, _⟩ := st; exact Heap.lt_size e
end
end Mine
end

section
open PySem PySem.W PyProof.Rows PySem.Calls
namespace Mine
/-- the method `name` of class C is the def at f -/
def MF (w : World) (C : Addr) (name : Str) (f : Addr) : Prop :=
  plainGet (KF w.params) C name = true ∧ findIn (KF w.params) (.ref C) name = some (some (.ref f)) ∧ isFn (KF w.params) (.ref f) = true ∧ keepIn (KF w.params) (.ref f) = true
section
variable {w : World}
theorem mf_has : MF w 273 "has" 163 := ⟨by k_is, by k_is, by k_is, by k_is⟩
theorem mf_get : MF w 273 "get" 170 := ⟨by k_is, by k_is, by k_is, by k_is⟩
theorem mf_put : MF w 273 "put" 178 := ⟨by k_is, by k_is, by k_is, by k_is⟩
theorem mf_row_for : MF w 273 "row_for" 185 := ⟨by k_is, by k_is, by k_is, by k_is⟩
theorem mf_forget : MF w 273 "forget" 199 := ⟨by k_is, by k_is, by k_is, by k_is⟩
theorem mf_drop : MF w 273 "drop" 206 := ⟨by k_is, by k_is, by k_is, by k_is⟩
theorem mf_make_room : MF w 273 "make_room" 220 := ⟨by k_is, by k_is, by k_is, by k_is⟩
theorem mf_next_out : MF w 273 "next_out" 227 := ⟨by k_is, by k_is, by k_is, by k_is⟩
theorem mf_put_out : MF w 273 "put_out" 234 := ⟨by k_is, by k_is, by k_is, by k_is⟩
theorem mf_hold : MF w 273 "hold" 246 := ⟨by k_is, by k_is, by k_is, by k_is⟩
theorem mf_release : MF w 273 "release" 253 := ⟨by k_is, by k_is, by k_is, by k_is⟩
theorem mf_resize : MF w 273 "resize" 260 := ⟨by k_is, by k_is, by k_is, by k_is⟩
theorem mf_rows : MF w 273 "rows" 192 := ⟨by k_is, by k_is, by k_is, by k_is⟩
theorem mf_used : MF w 273 "used" 213 := ⟨by k_is, by k_is, by k_is, by k_is⟩
theorem mf_cut_shadows : MF w 273 "cut_shadows" 239 := ⟨by k_is, by k_is, by k_is, by k_is⟩
theorem mf_clear : MF w 273 "clear" 265 := ⟨by k_is, by k_is, by k_is, by k_is⟩
theorem mf_plain : MF w 273 "plain" 270 := ⟨by k_is, by k_is, by k_is, by k_is⟩
theorem mf_cplain : MF w 138 "plain" 135 := ⟨by k_is, by k_is, by k_is, by k_is⟩
end
section
variable {prog : Program} {w : World} {c : Cx} {base h : Heap} {A : Around} {E : Value → Heap → Prop} {κ : CA} {env : Env} {o e : Expr} {rest : List Expr} {apos pos : Pos} {pl : Sem Bool} {Q : Value → Heap → Prop} {name : Str} {f : Addr}
theorem km (mf : MF w 273 name f) (B : Base w base) (y : W prog w c A (eval o env) (fun ov h₁ => ∃ m g, ov = .ref κ.x ∧ In0 base h₁ ∧ CaAt h₁ κ m g ∧
      W prog w c A (spliced (backTo pos (starEach (e :: rest) env))) (fun vs h₂ => In0 base h₂ ∧ C prog w c A (.call (.ref f) ⟨.ref κ.x :: vs, []⟩) (Back Q E) h₂) E h₁) E h)
    (hn : ∀ m g t u, (caAttrs κ m g t u).lookup name = none := by intro _ _ _ _; rfl)
    (he : eval (.Call (.Attribute o name apos) (e :: rest) [] pos) env = (do
      let ov ← eval o env
      standAt apos.atName
      let (f, first) ← holding [ov] (getMethod ov name pl)
      callWith pos f first (backTo pos (starEach (e :: rest) env)) (backToKw pos (keywordEach [] env))) := by rfl)
    (hst : starEach (e :: rest) env = (false, eval e env) :: starEach rest env := by rfl) (hplain : (backTo pos (starEach rest env)).any (·.1) = false := by rfl) :
    W prog w c A (eval (.Call (.Attribute o name apos) (e :: rest) [] pos) env) Q E h := by
  refine w_mcall B (y.post fun ov h₁ q => ?_) he hst hplain
  obtain ⟨m, g, rfl, kp, ⟨t, u, I⟩, q⟩ := q
  exact ⟨_, _, _, _, f, rfl, kp, I, hn m g t u, mf.1, mf.2.1, mf.2.2.1, mf.2.2.2, q⟩
theorem km0 (mf : MF w 273 name f) (B : Base w base) (y : W prog w c A (eval o env) (fun ov h₁ => ∃ m g, ov = .ref κ.x ∧ In0 base h₁ ∧ CaAt h₁ κ m g ∧
      C prog w c A (.call (.ref f) ⟨[.ref κ.x], []⟩) (Back Q E) h₁) E h)
    (hn : ∀ m g t u, (caAttrs κ m g t u).lookup name = none := by intro _ _ _ _; rfl)
    (he : eval (.Call (.Attribute o name apos) [] [] pos) env = (do
      let ov ← eval o env
      standAt apos.atName
      let (f, first) ← holding [ov] (getMethod ov name pl)
      callWith pos f first (backTo pos (starEach [] env)) (backToKw pos (keywordEach [] env))) := by rfl) :
    W prog w c A (eval (.Call (.Attribute o name apos) [] [] pos) env) Q E h := by
  refine w_mcall0 B (y.post fun ov h₁ q => ?_) he
  obtain ⟨m, g, rfl, kp, ⟨t, u, I⟩, q⟩ := q
  exact ⟨_, _, _, _, f, rfl, kp, I, hn m g t u, mf.1, mf.2.1, mf.2.2.1, mf.2.2.2, q⟩
theorem km_cplain {n : Cn} (B : Base w base) (y : W prog w c A (eval o env) (fun ov h₁ => ov = .ref κ.cx ∧ In0 base h₁ ∧ CnAt h₁ κ n ∧
      C prog w c A (.call (.ref 135) ⟨[.ref κ.cx], []⟩) (Back Q E) h₁) E h)
    (he : eval (.Call (.Attribute o "plain" apos) [] [] pos) env = (do
      let ov ← eval o env
      standAt apos.atName
      let (f, first) ← holding [ov] (getMethod ov "plain" pl)
      callWith pos f first (backTo pos (starEach [] env)) (backToKw pos (keywordEach [] env))) := by rfl) :
    W prog w c A (eval (.Call (.Attribute o "plain" apos) [] [] pos) env) Q E h := by
  refine w_mcall0 B (y.post fun ov h₁ q => ?_) he
  obtain ⟨rfl, kp, ⟨t, I⟩, q⟩ := q
  exact ⟨_, _, _, _, 135, rfl, kp, I, rfl, mf_cplain.1, mf_cplain.2.1, mf_cplain.2.2.1, mf_cplain.2.2.2, q⟩
end
end Mine
end

section
open PySem PySem.W PyProof.Rows PySem.Calls
namespace Mine
def CA.rr (κ : CA) : Nat → RA
  | 0 => κ.r1 | 1 => κ.r2 | 2 => κ.r3 | _ => κ.r4
def St.rr (σ : St) : Nat → List It
  | 0 => σ.rcn | 1 => σ.oft | 2 => σ.rg | _ => σ.og
def St.setR (σ : St) (i : Nat) (l : List It) : St := match i with
  | 0 => { σ with rcn := l } | 1 => { σ with oft := l } | 2 => { σ with rg := l } | _ => { σ with og := l }
theorem CacheAt.row {prog : Program} {w : World} {h : Heap} {κ : CA} {σ : St} (x : CacheAt prog w h κ σ) (i : Nat) : RowAt prog w h (κ.rr i) (σ.rr i) := by
  match i with
  | 0 => exact x.a1
  | 1 => exact x.a2
  | 2 => exact x.a3
  | _ + 3 => exact x.a4
theorem CacheAt.setR {prog : Program} {w : World} {h h' : Heap} {κ : CA} {σ : St} (i : Nat) {l : List It} (x : CacheAt prog w h κ σ) (k : Kept (κ.rr i).all h h') (p : RowAt prog w h' (κ.rr i) l) : CacheAt prog w h' κ (σ.setR i l) := by
  match i with
  | 0 => exact x.set1 k p
  | 1 => exact x.set2 k p
  | 2 => exact x.set3 k p
  | _ + 3 => exact x.set4 k p
theorem CA.rsub (κ : CA) (i : Nat) : ∀ a ∈ (κ.rr i).all, a ∈ κ.all := by
  match i with
  | 0 => exact κ.sub 1
  | 1 => exact κ.sub 2
  | 2 => exact κ.sub 3
  | _ + 3 => exact κ.sub 4
theorem Good.lr {σ : St} (g : Good σ) (i : Nat) : (σ.rr i).length ≤ 8 := by
  match i with
  | 0 => exact g.l1
  | 1 => exact g.l2
  | 2 => exact g.l3
  | _ + 3 => exact g.l4
theorem forgetS_at {σ : St} {k : Int} {i : Nat} (hi : i < 4) (hn : ∀ j < i, hasK (σ.rr j) k = false) (hk : hasK (σ.rr i) k = true) : forgetS σ k = σ.setR i (dropK (σ.rr i) k) := by
  match i, hi with
  | 0, _ => have h0 : hasK σ.rcn k = true := hk; simp [forgetS, h0, St.setR, St.rr]
  | 1, _ =>
    have h0 : hasK σ.rcn k = false := hn 0 (by decide)
    have h1 : hasK σ.oft k = true := hk
    simp [forgetS, h0, h1, St.setR, St.rr]
  | 2, _ =>
    have h0 : hasK σ.rcn k = false := hn 0 (by decide)
    have h1 : hasK σ.oft k = false := hn 1 (by decide)
    have h2 : hasK σ.rg k = true := hk
    simp [forgetS, h0, h1, h2, St.setR, St.rr]
  | 3, _ =>
    have h0 : hasK σ.rcn k = false := hn 0 (by decide)
    have h1 : hasK σ.oft k = false := hn 1 (by decide)
    have h2 : hasK σ.rg k = false := hn 2 (by decide)
    have h3 : hasK σ.og k = true := hk
    simp [forgetS, h0, h1, h2, h3, St.setR, St.rr]
theorem forgetS_none {σ : St} {k : Int} (hn : ∀ j < 4, hasK (σ.rr j) k = false) : forgetS σ k = σ := by
  have h0 : hasK σ.rcn k = false := hn 0 (by decide)
  have h1 : hasK σ.oft k = false := hn 1 (by decide)
  have h2 : hasK σ.rg k = false := hn 2 (by decide)
  have h3 : hasK σ.og k = false := hn 3 (by decide)
  simp [forgetS, h0, h1, h2, h3]
abbrev rowsV (κ : CA) : List Value := [.ref κ.r1.x, .ref κ.r2.x, .ref κ.r3.x, .ref κ.r4.x]
theorem rowsV_at {κ : CA} {i : Nat} {v : Value} (h : (rowsV κ)[i]? = some v) : i < 4 ∧ v = .ref (κ.rr i).x := by
  match i, h with
  | 0, h => exact ⟨by decide, (Option.some.inj h).symm⟩
  | 1, h => exact ⟨by decide, (Option.some.inj h).symm⟩
  | 2, h => exact ⟨by decide, (Option.some.inj h).symm⟩
  | 3, h => exact ⟨by decide, (Option.some.inj h).symm⟩
  | _ + 4, h => simp at h

section
variable {prog : Program} {w : World} {c : Cx} {base h : Heap} {A : Around} {R : Result → Heap → Prop} {κ : CA} {σ : St}

theorem c_ca_used (B : Base w base) (kp : In0 base h) (room : Room A 1) (x : CacheAt prog w h κ σ)
    (q : ∀ h' t, Kept [] h h' → R (.ok (.ret (.int (usedS σ) t))) h') : C prog w c A (.call (.ref 213) ⟨[.ref κ.x], []⟩) R h := by
  refine cf [("self", .ref κ.x)] B kp room (by k_is) (by k_is) (fun _ _ => BindsTo.of_eq rfl) (locs rfl) (fun h₁ F k₁ => ?_)
  have x₁ := x.kept0 k₁
  obtain ⟨t1, I1⟩ := x₁.a1.inst
  obtain ⟨t2, I2⟩ := x₁.a2.inst
  exact w_cons (w_Return (w_BinOp (w_Attr (w_Attr (w_ld F rfl (cg_recent B F.keep x₁.ca (rg_total B F.keep I1 (w_Attr (w_Attr (w_ld F rfl (cg_often B F.keep x₁.ca (rg_total B F.keep I2 (w_add fun t => q _ t k₁)))))))))))))

theorem c_ca_rows (B : Base w base) (kp : In0 base h) (room : Room A 1) (x : CacheAt prog w h κ σ)
    (q : ∀ h' a, Kept [] h h' → h.objs.size ≤ a → PT h' a (rowsV κ) → R (.ok (.ret (.ref a))) h') : C prog w c A (.call (.ref 192) ⟨[.ref κ.x], []⟩) R h := by
  refine cf [("self", .ref κ.x)] B kp room (by k_is) (by k_is) (fun _ _ => BindsTo.of_eq rfl) (locs rfl) (fun h₁ F k₁ => ?_)
  have x₁ := x.kept0 k₁
  refine w_cons (w_Return (w_Tuple (w_items (w_Attr (w_ld F rfl (cg_recent B F.keep x₁.ca (w_items (w_Attr (w_ld F rfl (cg_often B F.keep x₁.ca (w_items (w_Attr (w_ld F rfl (cg_recent_gone B F.keep x₁.ca (w_items (w_Attr (w_ld F rfl (cg_often_gone B F.keep x₁.ca (w_items0 ⟨by simp, fun h₂ p₂ k₂ => ?_⟩)))))))))))))))))))
  refine q h₂ _ (k₁.trans k₂) ?_ p₂
  obtain ⟨o, _, _, e, _⟩ := F.ns; exact Nat.le_of_lt (Heap.lt_size e)

theorem c_ca_forget {k : Int} {kt : Tok} (B : Base w base) (kp : In0 base h) (room : Room A 2) (x : CacheAt prog w h κ σ) (g : Good σ)
    (q : ∀ h' V, Kept κ.all h h' → CacheAt prog w h' κ (forgetS σ k) → R (.ok (.ret V)) h') : C prog w c A (.call (.ref 199) ⟨[.ref κ.x, .int k kt], []⟩) R h := by
  refine cf [("self", .ref κ.x), ("key", .int k kt)] B kp room (by k_is) (by k_is) (fun _ _ => BindsTo.of_eq rfl) (locs rfl) (fun h₁ F k₁ => ?_)
  have hL := not_mem_of_lt x.lt
  have x₁ := x.kept0 k₁
  refine w_cons (w_ForF (L := h.objs.size) [] ["row"] B room.hand (by decide) (km0 mf_rows B (w_ld F rfl ⟨_, _, rfl, F.keep, x₁.ca, c_ca_rows B F.keep room.deeper x₁ fun h₂ a k₂ ha p₂ => ?_⟩)))
  have F₂ := fk0 F k₂
  have x₂ := x₁.kept0 k₂
  have hLs : h.objs.size < h₁.objs.size := by obtain ⟨o, _, _, e, _⟩ := F.ns; exact Heap.lt_size e
  refine ⟨a, rowsV κ, _, fun i h' => CacheAt prog w h' κ σ ∧ ∀ j < i, hasK (σ.rr j) k = false, rfl, .inr p₂, F₂, Nat.ne_of_gt (Nat.lt_of_lt_of_le hLs ha), by simp, by simp, ?_, ?_, ?_, ?_⟩
  · intro h' k'; exact ⟨x₂.kept0 k', by simp⟩
  · rintro i h' h'' T ⟨p, n⟩ k' hT
    refine ⟨p.kept k' fun b hb m => ?_, n⟩
    rcases hT b m with rfl | lt
    · exact hL hb
    · exact Nat.lt_irrefl _ (Nat.lt_of_lt_of_le (x₂.lt b hb) lt)
  · rintro i v h₃ m₃ hv ⟨x₃, n⟩ F₃ e₃ hr k₃
    obtain ⟨hi, rfl⟩ := rowsV_at hv
    have r₃ := x₃.row i
    refine w_cons (w_If (w_tval (r_has B room.deeper (w_ld F₃ hr ⟨_, _, rfl, F₃.keep, r₃, w_ld F₃ ((e₃ _ (by decide)).trans rfl) ⟨k, kt, rfl, F₃.keep, r₃, fun h₄ k₄ => w_truthy ?_⟩⟩))))
    have F₄ := fk0 F₃ k₄
    have r₄ := r₃.kept0 k₄
    cases e : hasK (σ.rr i) k with
    | true =>
      first | refine if_yes (by rfl) ?_ | simp only [if_true]
      obtain ⟨it, hit⟩ := findK_has e
      refine w_cons (w_Return (w_Sub (r_take B room.deeper (w_ld F₄ hr ⟨_, _, rfl, F₄.keep, r₄, w_ld F₄ ((e₃ _ (by decide)).trans rfl) ⟨k, kt, it, rfl, F₄.keep, r₄, hit, by have := g.lr i; omega, fun h₅ a V zt k₅ r₅ ha p₅ hV => w_int fun t => w_titem (j := 0) p₅ rfl (by simp) rfl ?_⟩⟩))))
      refine q h₅ V ?_ ?_
      · refine Kept.fin ((((k₁.nil.trans k₂.nil).trans ((k₃.drop (S := [h.objs.size]) (T := [h₂.objs.size]) (by intro a ha; rw [List.mem_singleton.mp ha]; exact fresh_none _)).mono inr)).trans k₄.nil).trans (k₅.mono fun b hb => inl b (κ.rsub i b hb)))
      · rw [forgetS_at hi n e]
        exact (x₃.kept0 k₄).setR i k₅ r₅
    | false =>
      first | refine if_no (by rfl) ?_ | simp only [Bool.false_eq_true, if_false]
      refine w_nil (w_nil ⟨⟨x₃.kept0 k₄, fun j hj => ?_⟩, ⟨m₃, F₄, e₃⟩, k₄.nil⟩)
      rcases Nat.lt_or_eq_of_le (Nat.le_of_lt_succ hj) with hj | rfl
      · exact n j hj
      · exact e
  · rintro h₃ m₃ ⟨x₃, n⟩ F₃ e₃ k₃
    refine w_nil (w_cons (w_Return (w_none (q h₃ .none ?_ ?_))))
    · exact Kept.fin (((k₁.nil.trans k₂.nil).trans ((k₃.drop (S := [h.objs.size]) (T := [h₂.objs.size]) (by intro a ha; rw [List.mem_singleton.mp ha]; exact fresh_none _)).mono inr)))
    · rw [forgetS_none n]; exact x₃
end
end Mine
end

section
open PySem PySem.W PyProof.Rows PySem.Calls
namespace Mine
theorem Room.in1 {A : Around} {n m : Nat} (r : Room A n) (h : m + 1 ≤ n := by decide) : Room A.in1 m := by
  obtain ⟨a, b, c⟩ := r
  exact ⟨by show A.depth + m < _; omega, by show A.units + 1 + 10 * m + 10 < _; omega, c⟩

section
variable {prog : Program} {w : World} {c : Cx} {A : Around} {E : Value → Heap → Prop} {base h : Heap} {env : Env}
theorem w_ExprAny {e : Expr} {pos : Pos} {Q : Flow → Heap → Prop} (x : W prog w c A (eval e env) (fun v h' => Q .next h') E h)
    (hi : interactive env = false := by rfl) (hs : swapsWith e none pos.line env = pure false := by rfl) : W prog w c A (exec (.Expr e pos) env) Q E h :=
  ⟨fun n => wpAny_Expr_any (x.go fun v h' n' q => ⟨h', n', rfl, q⟩) hi hs⟩
end

/-! the held -/
theorem held_wo {prog : Program} {w : World} {h' : Heap} {a : Addr} {cl : List (Int × Int × Tok)} {l : List (Int × Int)} {k : Int} (lo : 350 ≤ a) (e : cl.map (fun x => (x.1, x.2.1)) = l)
    (d : DI prog w h' a (without (cl.map fun x => (x.1, Value.int x.2.1 x.2.2)) k)) : HeldAt prog w h' a (hwo l k) := by
  refine ⟨lo, cl.filter fun x => decide (x.1 ≠ k), ?_, ?_⟩
  · rw [← e, hwo, List.filter_map]; rfl
  · rw [without, List.filter_map] at d; exact d
theorem held_at {cl : List (Int × Int × Tok)} {l : List (Int × Int)} (e : cl.map (fun x => (x.1, x.2.1)) = l) (k : Int) :
    ∃ f : Int → Value, (∀ i, ∃ t, f i = .int i t) ∧ valueAt (cl.map fun x => (x.1, Value.int x.2.1 x.2.2)) k = (hat l k).map f := by
  subst e
  unfold valueAt hat
  rw [List.find?_map, List.find?_map]
  have e1 : ((fun kv : Int × Value => decide (kv.1 = k)) ∘ fun x : Int × Int × Tok => (x.1, Value.int x.2.1 x.2.2)) = fun x => decide (x.1 = k) := rfl
  have e2 : ((fun kv : Int × Int => decide (kv.1 = k)) ∘ fun x : Int × Int × Tok => (x.1, x.2.1)) = fun x => decide (x.1 = k) := rfl
  rw [e1, e2]
  cases q : cl.find? fun x => decide (x.1 = k) with
  | none => exact ⟨fun i => .int i 0, fun i => ⟨_, rfl⟩, rfl⟩
  | some x => exact ⟨fun i => .int i x.2.2, fun i => ⟨_, rfl⟩, rfl⟩
theorem held_set {prog : Program} {w : World} {h' : Heap} {a : Addr} {cl : List (Int × Int × Tok)} {l : List (Int × Int)} {k n : Int} {t : Tok} (lo : 350 ≤ a) (e : cl.map (fun x => (x.1, x.2.1)) = l)
    (d : DI prog w h' a (stored (cl.map fun x => (x.1, Value.int x.2.1 x.2.2)) k (.int n t))) : HeldAt prog w h' a (hst l k n) := by
  have ea : ((cl.map fun x => (x.1, Value.int x.2.1 x.2.2)).any fun kv => decide (kv.1 = k)) = l.any fun kv => decide (kv.1 = k) := held_any e k
  unfold stored at d
  rw [ea] at d
  unfold hst
  cases q : l.any fun kv => decide (kv.1 = k) with
  | true =>
    rw [q] at d
    simp only [if_true] at d ⊢
    refine ⟨lo, cl.map fun x => if x.1 = k then (x.1, n, t) else x, ?_, ?_⟩
    · rw [← e, List.map_map, List.map_map]
      apply List.map_congr_left; intro x _
      simp only [Function.comp]; split <;> rfl
    · rw [List.map_map] at d ⊢
      have : ((fun kv : Int × Value => if kv.1 = k then (kv.1, Value.int n t) else kv) ∘ fun x : Int × Int × Tok => (x.1, Value.int x.2.1 x.2.2)) = ((fun x : Int × Int × Tok => (x.1, Value.int x.2.1 x.2.2)) ∘ fun x => if x.1 = k then (x.1, n, t) else x) := by
        funext x; simp only [Function.comp]; split <;> rfl
      rw [← this]; exact d
  | false =>
    rw [q] at d
    simp only [Bool.false_eq_true, if_false] at d ⊢
    refine ⟨lo, cl ++ [(k, n, t)], by rw [List.map_append, e]; rfl, ?_⟩
    rw [List.map_append]; exact d

theorem held_forget (σ : St) (k : Int) : (forgetS σ k).held = σ.held := by unfold forgetS; (repeat' split) <;> rfl
theorem putOut_mem {σ : St} {k : Int} {i : It} (h : findK σ.rcn k = some i) : putOut σ k = { σ with rcn := dropK σ.rcn k, rg := σ.rg ++ [⟨k, none, i.z⟩], cn := { σ.cn with po := σ.cn.po + 1 } } := by
  unfold putOut; rw [h]
theorem putOut_mem2 {σ : St} {k : Int} {i : It} (h0 : hasK σ.rcn k = false) (h : findK σ.oft k = some i) : putOut σ k = { σ with oft := dropK σ.oft k, og := σ.og ++ [⟨k, none, i.z⟩], cn := { σ.cn with po := σ.cn.po + 1 } } := by
  unfold putOut; rw [findK_none.mpr h0, h]

section
variable {prog : Program} {w : World} {c : Cx} {base h : Heap} {A : Around} {R : Result → Heap → Prop} {κ : CA} {σ : St}

theorem c_ca_drop {k : Int} {kt : Tok} (B : Base w base) (kp : In0 base h) (room : Room A 3) (x : CacheAt prog w h κ σ) (g : Good σ)
    (q : ∀ h', Kept κ.all h h' → CacheAt prog w h' κ (dropS σ k) → R (.ok (.ret (.bool (hasS σ k)))) h') : C prog w c A (.call (.ref 206) ⟨[.ref κ.x, .int k kt], []⟩) R h := by
  refine cf [("self", .ref κ.x), ("key", .int k kt)] B kp room (by k_is) (by k_is) (fun _ _ => BindsTo.of_eq rfl) (locs rfl) (fun h₁ F k₁ => ?_)
  have hL := not_mem_of_lt x.lt
  have x₁ := x.kept0 k₁
  -- was_here = self.has(key)
  refine w_cons (w_AssignName (km mf_has B (w_ld F rfl ⟨_, _, rfl, F.keep, x₁.ca, w_items (w_ld F rfl (w_items0 ⟨F.keep, c_ca_has B F.keep room.deeper x₁ fun h₂ k₂ => ?_⟩))⟩)))
  refine w_st (fk0 F k₂) fun h₃ F₃ k₃ => ?_
  have x₃ := (x₁.kept0 k₂).kept k₃ (notL hL)
  -- self.forget(key)
  refine w_cons (w_ExprAny (km mf_forget B (w_ld F₃ rfl ⟨_, _, rfl, F₃.keep, x₃.ca, w_items (w_ld F₃ rfl (w_items0 ⟨F₃.keep, c_ca_forget B F₃.keep room.deeper x₃ g fun h₄ V k₄ x₄ => ?_⟩))⟩)))
  have F₄ := fk B F₃ k₄ hL x.lo
  -- self.held.pop(key, 0)
  have H := x₄.held
  obtain ⟨lo, cl, e, d⟩ := H
  have hlen : cl.length ≤ 8 := by
    have h8 := nodup_range_len (g.forget k).hn (fun j hj => by obtain ⟨p, hp, rfl⟩ := List.mem_map.mp hj; exact (g.forget k).hr p hp)
    rw [← e] at h8; simpa using h8
  refine w_cons (w_ExprAny (w_pop2 (w_Attr (w_ld F₄ rfl (cg_held B F₄.keep x₄.ca ⟨_, rfl, lo, ⟨_, d⟩, w_ld F₄ rfl (w_int fun t => ⟨k, kt, _, rfl, d, by simp; omega, fun h₅ d₅ k₅ => ?_⟩)⟩)))))
  have F₅ := fk B F₄ (k₅.mono κ.ha1) hL x.lo
  have x₅ := x₄.setHeld k₅ (held_wo lo e d₅)
  refine w_cons (w_Return (w_ld F₅ rfl (q h₅ ?_ (by have := x₅; rw [held_forget] at this; exact this))))
  exact Kept.fin ((((k₁.nil.trans k₂.nil).trans (k₃.mono inr)).trans (k₄.mono inl)).trans (k₅.mono κ.ha0))

theorem c_ca_put_out {k : Int} {kt : Tok} (B : Base w base) (kp : In0 base h) (room : Room A 2) (x : CacheAt prog w h κ σ) (g : Good σ) (hk : hasS σ k = true)
    (q : ∀ h', Kept κ.all h h' → CacheAt prog w h' κ (putOut σ k) → R (.ok (.ret .none)) h') : C prog w c A (.call (.ref 234) ⟨[.ref κ.x, .int k kt], []⟩) R h := by
  refine cf [("self", .ref κ.x), ("key", .int k kt)] B kp room (by k_is) (by k_is) (fun _ _ => BindsTo.of_eq rfl) (locs rfl) (fun h₁ F k₁ => ?_)
  have hL := not_mem_of_lt x.lt
  have x₁ := x.kept0 k₁
  refine w_cons (w_AssignAttr (w_BinOp (w_Attr (w_Attr (w_ld F rfl (cg_counts B F.keep x₁.ca (kg_po B F.keep x₁.cn fun t => w_int fun u => w_add fun t' => w_Attr (w_ld F rfl (cg_counts B F.keep x₁.ca (ks_po B F.keep x₁.ne.2 x₁.cn fun h₂ n₂ k₂ => ?_))))))))))
  have x₂ := x₁.setCn k₂ n₂
  have F₂ := fk B F (k₂.mono κ.cd1) hL x.lo
  refine w_cons (w_If (w_tval (r_has B room.deeper (w_Attr (w_ld F₂ rfl (cg_recent B F₂.keep x₂.ca ⟨κ.r1, σ.rcn, rfl, F₂.keep, x₂.a1, w_ld F₂ rfl ⟨k, kt, rfl, F₂.keep, x₂.a1, fun h₃ k₃ => w_truthy ?_⟩⟩))))))
  have F₃ := fk0 F₂ k₃
  have x₃ := x₂.kept0 k₃
  cases e : hasK σ.rcn k with
  | true =>
    first | refine if_yes (by rfl) ?_ | simp only [if_true]
    obtain ⟨i, hi⟩ := findK_has e
    refine w_cons (w_AssignTuple (r_take B room.deeper (w_Attr (w_ld F₃ rfl (cg_recent B F₃.keep x₃.ca ⟨κ.r1, σ.rcn, rfl, F₃.keep, x₃.a1, w_ld F₃ rfl ⟨k, kt, i, rfl, F₃.keep, x₃.a1, hi, by have := g.l1; omega, fun h₄ a V zt k₄ r₄ ha p₄ hV => ?_⟩⟩)))))
    have x₄ := x₃.set1 k₄ r₄
    have F₄ := fk B F₃ (k₄.mono (κ.sub 1)) hL x.lo
    refine w_unpack2 room.hand p₄ fun h₅ k₅ => w_st (fk0 F₄ k₅) fun h₆ F₆ k₆ => w_st F₆ fun h₇ F₇ k₇ => ?_
    have x₇ := ((x₄.kept0 k₅).kept k₆ (notL hL)).kept k₇ (notL hL)
    refine w_cons (w_ExprAny (r_add B room.deeper (w_Attr (w_ld F₇ rfl (cg_recent_gone B F₇.keep x₇.ca ⟨κ.r3, σ.rg, rfl, F₇.keep, x₇.a3, w_ld F₇ rfl (w_none (w_ld F₇ rfl ⟨k, kt, none, i.z, zt, rfl, rfl, rfl, F₇.keep, x₇.a3, g.d13 k e, by have := g.l3; omega, fun h₈ k₈ r₈ => ?_⟩))⟩)))))
    have x₈ := x₇.set3 k₈ r₈
    refine w_nil (w_nil (q h₈ ?_ ?_))
    · exact Kept.fin (((((((k₁.nil.trans (k₂.mono κ.cd0)).trans k₃.nil).trans (k₄.mono (κ.in0 1))).trans k₅.nil).trans (k₆.mono inr)).trans (k₇.mono inr)).trans (k₈.mono (κ.in0 3)))
    · rw [putOut_mem hi]; exact x₈
  | false =>
    first | refine if_no (by rfl) ?_ | simp only [Bool.false_eq_true, if_false]
    have e2 : hasK σ.oft k = true := by rw [hasS, e, Bool.false_or] at hk; exact hk
    obtain ⟨i, hi⟩ := findK_has e2
    refine w_cons (w_AssignTuple (r_take B room.deeper (w_Attr (w_ld F₃ rfl (cg_often B F₃.keep x₃.ca ⟨κ.r2, σ.oft, rfl, F₃.keep, x₃.a2, w_ld F₃ rfl ⟨k, kt, i, rfl, F₃.keep, x₃.a2, hi, by have := g.l2; omega, fun h₄ a V zt k₄ r₄ ha p₄ hV => ?_⟩⟩)))))
    have x₄ := x₃.set2 k₄ r₄
    have F₄ := fk B F₃ (k₄.mono (κ.sub 2)) hL x.lo
    refine w_unpack2 room.hand p₄ fun h₅ k₅ => w_st (fk0 F₄ k₅) fun h₆ F₆ k₆ => w_st F₆ fun h₇ F₇ k₇ => ?_
    have x₇ := ((x₄.kept0 k₅).kept k₆ (notL hL)).kept k₇ (notL hL)
    refine w_cons (w_ExprAny (r_add B room.deeper (w_Attr (w_ld F₇ rfl (cg_often_gone B F₇.keep x₇.ca ⟨κ.r4, σ.og, rfl, F₇.keep, x₇.a4, w_ld F₇ rfl (w_none (w_ld F₇ rfl ⟨k, kt, none, i.z, zt, rfl, rfl, rfl, F₇.keep, x₇.a4, g.d24 k e2, by have := g.l4; omega, fun h₈ k₈ r₈ => ?_⟩))⟩)))))
    have x₈ := x₇.set4 k₈ r₈
    refine w_nil (w_nil (q h₈ ?_ ?_))
    · exact Kept.fin (((((((k₁.nil.trans (k₂.mono κ.cd0)).trans k₃.nil).trans (k₄.mono (κ.in0 2))).trans k₅.nil).trans (k₆.mono inr)).trans (k₇.mono inr)).trans (k₈.mono (κ.in0 4)))
    · rw [putOut_mem2 e hi]; exact x₈
end
end Mine
end

section
open PySem PySem.W PyProof.Rows PySem.Calls
namespace Mine
theorem KeyV.or {V V' : Value} {o o' : Option Int} (x : KeyV V o) (y : KeyV V' o') : KeyV (if (V == .none) = true then V' else V) (o.or o') := by
  cases o with
  | none => have : V = .none := x; subst this; exact y
  | some k => obtain ⟨t, rfl⟩ := x; exact ⟨t, rfl⟩
theorem oldestK_has {l : List It} {held : List (Int × Int)} {k : Int} (h : oldestK l held = some k) : hasK l k = true := by
  unfold oldestK at h
  obtain ⟨i, hi, rfl⟩ := Option.map_eq_some_iff.mp h
  exact hasK_iff.mpr ⟨i, List.mem_of_find?_eq_some hi, rfl⟩
theorem nextOut_has {σ : St} {s : Bool} {k : Int} (h : nextOut σ s = some k) : hasS σ k = true := by
  unfold nextOut at h
  unfold hasS
  have a := @oldestK_has σ.rcn σ.held k
  have b := @oldestK_has σ.oft σ.held k
  dsimp only at h
  cases q1 : oldestK σ.rcn σ.held <;> cases q2 : oldestK σ.oft σ.held <;> simp only [q1, q2, Option.or] at h a b <;> split at h <;> simp_all
theorem dropK_lt {l : List It} {k : Int} (h : hasK l k = true) : (dropK l k).length + 1 ≤ l.length := by
  induction l with
  | nil => simp [hasK] at h
  | cons i r ih =>
    unfold dropK
    rw [List.filter_cons]
    by_cases q : i.k = k
    · first | refine if_no (by first | rfl | simp only [q, ne_eq, not_true_eq_false, decide_false, List.length_cons]) ?_ | simp only [q, ne_eq, not_true_eq_false, decide_false, Bool.false_eq_true, if_false, List.length_cons]
      have := List.length_filter_le (fun i : It => decide (i.k ≠ k)) r
      simp only [ne_eq] at this; omega
    · have : hasK r k = true := by simpa [hasK, q] using h
      have := ih this
      first | refine if_yes (by first | rfl | simp only [q, ne_eq, not_false_eq_true, decide_true, List.length_cons]) ?_ | simp only [q, ne_eq, not_false_eq_true, decide_true, if_true, List.length_cons]
      unfold dropK at this; simp only [ne_eq] at this; omega
theorem putOut_len {σ : St} {k : Int} (h : hasS σ k = true) : (putOut σ k).rcn.length + (putOut σ k).oft.length + 1 ≤ σ.rcn.length + σ.oft.length := by
  cases e : hasK σ.rcn k with
  | true =>
    obtain ⟨i, hi⟩ := findK_has e
    rw [putOut_mem hi]; have := dropK_lt e; dsimp only; omega
  | false =>
    have e2 : hasK σ.oft k = true := by rw [hasS, e, Bool.false_or] at h; exact h
    obtain ⟨i, hi⟩ := findK_has e2
    rw [putOut_mem2 e hi]; have := dropK_lt e2; dsimp only; omega

section
variable {prog : Program} {w : World} {c : Cx} {base h : Heap} {A : Around} {R : Result → Heap → Prop} {κ : CA} {σ : St}

theorem c_ca_next_out {s : Bool} (B : Base w base) (kp : In0 base h) (room : Room A 2) (x : CacheAt prog w h κ σ) (g : Good σ)
    (q : ∀ h' V, Kept [] h h' → KeyV V (nextOut σ s) → R (.ok (.ret V)) h') : C prog w c A (.call (.ref 227) ⟨[.ref κ.x, .bool s], []⟩) R h := by
  refine cf [("self", .ref κ.x), ("is_second", .bool s)] B kp room (by k_is) (by k_is) (fun _ _ => BindsTo.of_eq rfl) (locs rfl) (fun h₁ F k₁ => ?_)
  have hL := not_mem_of_lt x.lt
  have x₁ := x.kept0 k₁
  have l1 := g.l1
  have l2 := g.l2
  refine w_cons (w_swap2 room.hand (w_Tuple (w_items (r_oldest B room.deeper (w_Attr (w_ld F rfl (cg_recent B F.keep x₁.ca ⟨κ.r1, σ.rcn, rfl, F.keep, x₁.a1, w_Attr (w_ld F rfl (cg_held B F.keep x₁.ca ⟨κ.ha, σ.held, rfl, F.keep, x₁.a1, x₁.held, by omega, fun h₂ V1 k₂ hV1 => ?_⟩))⟩)))))))
  have F₂ := fk0 F k₂
  have x₂ := x₁.kept0 k₂
  refine w_items (r_oldest B room.deeper (w_Attr (w_ld F₂ rfl (cg_often B F₂.keep x₂.ca ⟨κ.r2, σ.oft, rfl, F₂.keep, x₂.a2, w_Attr (w_ld F₂ rfl (cg_held B F₂.keep x₂.ca ⟨κ.ha, σ.held, rfl, F₂.keep, x₂.a2, x₂.held, by omega, fun h₃ V2 k₃ hV2 => ?_⟩))⟩))))
  have F₃ := fk0 F₂ k₃
  refine w_items0 ⟨by simp, fun h₄ p₄ k₄ => ⟨_, V1, V2, rfl, p₄, fun h₅ k₅ => ?_⟩⟩
  refine w_st (fk0 (fk0 F₃ k₄) k₅) fun h₆ F₆ k₆ => w_st F₆ fun h₇ F₇ k₇ => ?_
  have x₇ := ((((x₂.kept0 k₃).kept0 k₄).kept0 k₅).kept k₆ (notL hL)).kept k₇ (notL hL)
  have kk : Kept [h.objs.size] h h₇ := ((((((k₁.trans k₂).trans k₃).trans k₄).trans k₅).nil).trans k₆).trans k₇
  -- is_above
  obtain ⟨t7, I7⟩ := x₇.a1.inst
  refine w_cons (w_AssignName (W.post (Q := fun v h' => v = .bool (decide (total σ.rcn > σ.goal ∨ (s = true ∧ total σ.rcn = σ.goal))) ∧ h' = h₇) ?_ ?_))
  · refine w_Or2 (w_Cmp (w_Attr (w_Attr (w_ld F₇ rfl (cg_recent B F₇.keep x₇.ca (rg_total B F₇.keep I7 (w_Attr (w_ld F₇ rfl (cg_goal B F₇.keep x₇.ca fun t => w_gt (w_truthy ?_))))))))))
    by_cases c1 : total σ.rcn > σ.goal
    · simp [c1]
    · first | refine if_no (by first | rfl | simp only [c1, decide_false]) ?_ | simp only [c1, decide_false, Bool.false_eq_true, if_false]
      refine w_And2 (w_ld F₇ rfl (w_truthy ?_))
      cases s with
      | false => simp [c1]
      | true =>
        first | refine if_yes (by rfl) ?_ | simp only [if_true]
        refine w_Cmp (w_Attr (w_Attr (w_ld F₇ rfl (cg_recent B F₇.keep x₇.ca (rg_total B F₇.keep I7 (w_Attr (w_ld F₇ rfl (cg_goal B F₇.keep x₇.ca fun t => w_eq ⟨?_, rfl⟩))))))))
        congr 1
        by_cases c2 : total σ.rcn = σ.goal
        · simp [c2]
        · simp [c1, c2]
  rintro v h' ⟨rfl, rfl⟩
  refine w_st F₇ fun h₈ F₈ k₈ => ?_
  -- first, second
  refine w_cons (w_AssignTuple (W.post (Q := fun v h' => ∃ t V V' o o', v = .ref t ∧ PT h' t [V, V'] ∧ KeyV V o ∧ KeyV V' o' ∧ o.or o' = nextOut σ s ∧ Kept [] h₈ h') ?_ ?_))
  · refine w_IfExp (w_tval (w_ld F₈ rfl (w_truthy ?_)))
    by_cases c1 : total σ.rcn > σ.goal ∨ (s = true ∧ total σ.rcn = σ.goal)
    · first | refine if_yes (by first | rfl | simp only [c1, decide_true]) ?_ | simp only [c1, decide_true, if_true]
      exact w_Tuple (w_items (w_ld F₈ rfl (w_items (w_ld F₈ rfl (w_items0 ⟨by simp, fun h' p k => ⟨_, _, _, _, _, rfl, p, hV1, hV2, by simp only [nextOut, c1, if_true], k⟩⟩)))))
    · first | refine if_no (by first | rfl | simp only [c1, decide_false]) ?_ | simp only [c1, decide_false, Bool.false_eq_true, if_false]
      exact w_Tuple (w_items (w_ld F₈ rfl (w_items (w_ld F₈ rfl (w_items0 ⟨by simp, fun h' p k => ⟨_, _, _, _, _, rfl, p, hV2, hV1, by simp only [nextOut, c1, if_false], k⟩⟩)))))
  rintro v h₉ ⟨t, V, V', o, o', rfl, p₉, hV, hV', ho, k₉⟩
  refine w_unpack2 room.hand p₉ fun h₁₀ k₁₀ => w_st (fk0 (fk0 F₈ k₉) k₁₀) fun h₁₁ F₁₁ k₁₁ => w_st F₁₁ fun h₁₂ F₁₂ k₁₂ => ?_
  have kk' : Kept [] h h₁₂ := Kept.fin (S := []) (((((kk.trans k₈).trans k₉.nil).trans k₁₀.nil).trans k₁₁).trans k₁₂)
  have hr := hV.or hV'
  rw [ho] at hr
  refine w_cons (w_Return (w_IfExp (w_tCmp (w_ld F₁₂ rfl (w_none (w_isNone (w_truthy ?_)))))))
  cases e : (V == Value.none) with
  | true => rw [e] at hr; simp only [if_true] at hr ⊢; exact w_ld F₁₂ rfl (q _ _ kk' hr)
  | false => rw [e] at hr; simp only [Bool.false_eq_true, if_false] at hr ⊢; exact w_ld F₁₂ rfl (q _ _ kk' hr)

theorem c_ca_make_room {s : Bool} {z : Int} {zt : Tok} (B : Base w base) (kp : In0 base h) (room : Room A 3) (x : CacheAt prog w h κ σ) (g : Good σ)
    (q : ∀ h', Kept κ.all h h' → CacheAt prog w h' κ (roomS σ z s) → R (.ok (.ret .none)) h') : C prog w c A (.call (.ref 220) ⟨[.ref κ.x, .int z zt, .bool s], []⟩) R h := by
  refine cf [("self", .ref κ.x), ("size", .int z zt), ("is_second", .bool s)] B kp room (by k_is) (by k_is) (fun _ _ => BindsTo.of_eq rfl) (locs rfl) (fun h₁ F k₁ => ?_)
  have hL := not_mem_of_lt x.lt
  have x₁ := x.kept0 k₁
  have fin : ∀ {h'}, Kept (h.objs.size :: κ.all) h₁ h' → Kept κ.all h h' := fun k => Kept.fin (k₁.nil.trans (k.mono (by simp; exact fun a ha => .inl ha)))
  refine w_cons (w_WhileF (L := h.objs.size) κ.all ["key"] B (fun i h' => ∃ τ, CacheAt prog w h' κ τ ∧ Good τ ∧ makeRoom i τ z s = roomS σ z s ∧ τ.rcn.length + τ.oft.length + 1 ≤ i) F (σ.rcn.length + σ.oft.length + 1) ⟨σ, x₁, g, rfl, Nat.le_refl _⟩ ?_)
  rintro i h₂ m₂ ⟨τ, x₂, g₂, em, hi⟩ F₂ e₂ k₂
  obtain ⟨n, rfl⟩ : ∃ n, i = n + 1 := ⟨i - 1, by omega⟩
  rw [makeRoom] at em
  refine w_tCmp (w_BinOp (km0 mf_used B (w_ld F₂ ((e₂ _ (by decide)).trans rfl) ⟨_, _, rfl, F₂.keep, x₂.ca, c_ca_used B F₂.keep room.deeper x₂ fun h₃ t₃ k₃ => ?_⟩)))
  have F₃ := fk0 F₂ k₃
  have x₃ := x₂.kept0 k₃
  refine w_ld F₃ ((e₂ _ (by decide)).trans rfl) (w_add fun t => w_Attr (w_ld F₃ ((e₂ _ (by decide)).trans rfl) (cg_most B F₃.keep x₃.ca fun t => w_gt (w_truthy ?_))))
  by_cases cnd : usedS τ + z > τ.most
  · simp only [cnd, decide_true, if_true] at em ⊢
    refine w_cons (w_AssignName (km mf_next_out B (w_ld F₃ ((e₂ _ (by decide)).trans rfl) ⟨_, _, rfl, F₃.keep, x₃.ca, w_items (w_ld F₃ ((e₂ _ (by decide)).trans rfl) (w_items0 ⟨F₃.keep, c_ca_next_out B F₃.keep room.deeper x₃ g₂ fun h₄ V k₄ hV => ?_⟩))⟩)))
    refine w_st (fk0 F₃ k₄) fun h₅ F₅ k₅ => ?_
    have x₅ := (x₃.kept0 k₄).kept k₅ (notL hL)
    have k25 : Kept (h.objs.size :: κ.all) h₂ h₅ := (k₃.nil.trans k₄.nil).trans (k₅.mono (by simp))
    refine w_cons (w_If (w_tCmp (w_ld F₅ rfl (w_none (w_isNone (w_truthy ?_))))))
    cases hn : nextOut τ s with
    | none =>
      rw [hn] at em hV
      have : V = .none := hV
      subst this
      have e0 : (Value.none == Value.none) = true := rfl
      rw [e0]
      first | refine if_yes (by rfl) ?_ | simp only [if_true]
      dsimp only at em
      refine w_cons (w_Return0 (q h₅ (fin (k₂.trans k25)) (em ▸ x₅)))
    | some k =>
      rw [hn] at em hV
      obtain ⟨kt, rfl⟩ := hV
      have e0 : (Value.int k kt == Value.none) = false := rfl
      rw [e0]
      first | refine if_no (by rfl) ?_ | simp only [Bool.false_eq_true, if_false]
      dsimp only at em
      have hk := nextOut_has hn
      refine w_nil (w_cons (w_ExprAny (km mf_put_out B (w_ld F₅ ((put_ne (by decide)).trans ((e₂ _ (by decide)).trans rfl)) ⟨_, _, rfl, F₅.keep, x₅.ca, w_items (w_ld F₅ rfl (w_items0 ⟨F₅.keep, c_ca_put_out B F₅.keep room.deeper x₅ g₂ hk fun h₆ k₆ x₆ => ?_⟩))⟩))))
      have F₆ := fk B F₅ k₆ hL x.lo
      have hl := putOut_len hk
      refine w_nil ⟨⟨n, Nat.lt_succ_self n, putOut τ k, x₆, g₂.putOut k, em, by omega⟩, ⟨_, F₆, fun y hy => (put_ne (by simpa using hy)).trans (e₂ y hy)⟩, k25.trans (k₆.mono (by simp; exact fun a ha => .inr ha))⟩
  · simp only [cnd, decide_false, Bool.false_eq_true, if_false] at em ⊢
    exact w_nil (w_nil (q h₃ (fin (k₂.trans k₃.nil)) (em ▸ x₃)))
end
end Mine
end

section
open PySem PySem.W PyProof.Rows PySem.Calls
namespace Mine
theorem CacheAt.rinj {prog : Program} {w : World} {h : Heap} {κ : CA} {σ : St} (x : CacheAt prog w h κ σ) {i j : Nat} (hi : i < 4) (hj : j < 4) (e : (κ.rr i).x = (κ.rr j).x) : i = j := by
  by_cases q : i = j
  · exact q
  · exfalso
    have m : ∀ i, i < 4 → (κ.rr i).x ∈ κ.part (i + 1) := fun i hi => by
      match i, hi with
      | 0, _ => exact κ.r1.m1
      | 1, _ => exact κ.r2.m1
      | 2, _ => exact κ.r3.m1
      | 3, _ => exact κ.r4.m1
    exact x.dj (i + 1) (j + 1) (by omega) _ (m i hi) (by rw [e]; exact m j hj)
theorem Good.setRg {σ : St} (g : Good σ) {l : List It} (s : l.Sublist σ.rg) : Good { σ with rg := l } := by
  obtain ⟨n1, n2, n3, n4, d12, d13, d14, d23, d24, d34, g1, g2, g3, g4, hn, hr, mp, gp⟩ := g
  have r : ∀ l : List It, l.Sublist l := List.Sublist.refl
  exact ⟨n1, n2, keysNd_sub n3 s, n4, d12, d13.sub (r _) s, d14, d23.sub (r _) s, d24, d34.sub s (r _), g1, g2, g3.sub s, g4, hn, hr, mp, gp⟩
theorem Good.setOg {σ : St} (g : Good σ) {l : List It} (s : l.Sublist σ.og) : Good { σ with og := l } := by
  obtain ⟨n1, n2, n3, n4, d12, d13, d14, d23, d24, d34, g1, g2, g3, g4, hn, hr, mp, gp⟩ := g
  have r : ∀ l : List It, l.Sublist l := List.Sublist.refl
  exact ⟨n1, n2, n3, keysNd_sub n4 s, d12, d13, d14.sub (r _) s, d23, d24.sub (r _) s, d34.sub (r _) s, g1, g2, g3, g4.sub s, hn, hr, mp, gp⟩
theorem dropK_head {i : It} {r : List It} (nd : keysNd (i :: r)) : dropK (i :: r) i.k = r := by
  unfold keysNd at nd
  simp only [List.map_cons, List.nodup_cons] at nd
  unfold dropK
  rw [List.filter_cons]
  first | refine if_no (by first | rfl | simp only [ne_eq, not_true_eq_false, decide_false]) ?_ | simp only [ne_eq, not_true_eq_false, decide_false, Bool.false_eq_true, if_false]
  rw [List.filter_eq_self]
  intro j hj
  have : j.k ≠ i.k := fun e => nd.1 (by rw [← e]; exact List.mem_map_of_mem hj)
  simpa using this
theorem Good.tr {σ : St} (g : Good σ) (i : Nat) : 0 ≤ total (σ.rr i) ∧ total (σ.rr i) ≤ 40 := by
  match i with
  | 0 => exact total40 g.n1 g.g1
  | 1 => exact total40 g.n2 g.g2
  | 2 => exact total40 g.n3 g.g3
  | _ + 3 => exact total40 g.n4 g.g4

section
variable {prog : Program} {w : World} {c : Cx} {base h : Heap} {A : Around} {R : Result → Heap → Prop} {E : Value → Heap → Prop} {κ : CA} {σ : St} {env : Env} {o e : Expr}

/-- row.keys[0] -/
theorem r_first {ρ : RA} {it : It} {l : List It} {v s : Expr} {Q : Value → Heap → Prop} {t : Tok} (r : RowAt prog w h ρ (it :: l)) (hl : l.length ≤ 9000) (q : ∀ t, Q (.int it.k t) h)
    (hs : subscripted s false (.ref ρ.ka) (.int 0 t) = operate [.ref ρ.ka, .int 0 t] (getItem (.ref ρ.ka) (.int 0 t)) := by with_unfolding_all rfl) :
    W prog w c A (subscriptTail v s (.ref ρ.ka) (.int 0 t)) Q E h := by
  obtain ⟨cl, h1, nd, r⟩ := r
  cases cl with
  | nil => simp at h1
  | cons a cl =>
    simp only [List.map_cons, List.cons.injEq] at h1
    have hlen : cl.length = l.length := by rw [← h1.2]; simp
    refine w_litem (j := 0) r.keys rfl (by simp; omega) rfl ?_ hs
    have : a.keyV = .int it.k a.kt := by unfold CI.keyV; rw [h1.1]
    rw [this]; exact q _

theorem c_ca_cut (B : Base w base) (kp : In0 base h) (room : Room A 3) (x : CacheAt prog w h κ σ) (g : Good σ)
    (q : ∀ h', Kept κ.all h h' → CacheAt prog w h' κ (cutS σ) → R (.ok (.ret .none)) h') : C prog w c A (.call (.ref 239) ⟨[.ref κ.x], []⟩) R h := by
  refine cf [("self", .ref κ.x)] B kp room (by k_is) (by k_is) (fun _ _ => BindsTo.of_eq rfl) (locs rfl) (fun h₁ F k₁ => ?_)
  have hL := not_mem_of_lt x.lt
  have x₁ := x.kept0 k₁
  have fin : ∀ {h'}, Kept (h.objs.size :: κ.all) h₁ h' → Kept κ.all h h' := fun k => Kept.fin (k₁.nil.trans (k.mono (by simp; exact fun a ha => .inl ha)))
  have sub3 : ∀ a ∈ κ.r3.all, a ∈ h.objs.size :: κ.all := fun a ha => List.mem_cons_of_mem _ (κ.sub 3 a ha)
  have sub4 : ∀ a ∈ κ.r4.all, a ∈ h.objs.size :: κ.all := fun a ha => List.mem_cons_of_mem _ (κ.sub 4 a ha)
  -- the shadows of the recent
  refine w_cons (W.post (Q := fun f h' => f = .next ∧ Fr base h.objs.size h' (fun y => List.lookup y (([("self", Value.ref κ.x)] : List (Str × Value)).reverse)) ∧ CacheAt prog w h' κ { σ with rg := cutL σ.most (total σ.rcn) σ.rg } ∧ Kept (h.objs.size :: κ.all) h₁ h') (w_WhileF (L := h.objs.size) κ.all [] B (fun i h' => ∃ l : List It, i = l.length ∧ l.Sublist σ.rg ∧ CacheAt prog w h' κ { σ with rg := l } ∧ cutL σ.most (total σ.rcn) l = cutL σ.most (total σ.rcn) σ.rg) F σ.rg.length ⟨σ.rg, rfl, List.Sublist.refl _, x₁, rfl⟩ ?_) ?_)
  · rintro i h₂ m₂ ⟨l, rfl, sl, x₂, el⟩ F₂ e₂ k₂
    have e₂' : m₂ = _ := funext fun y => e₂ y (by simp)
    subst e₂'
    have g₂ := g.setRg sl
    have l3 : l.length ≤ 8 := g₂.l3
    refine w_tAnd (w_and (w_tCmp (w_bcall B F₂.keep (by k_is) (by boot_by_name) (by decide) (w_items (w_Attr (w_ld F₂ rfl (cg_recent_gone B F₂.keep x₂.ca (w_items0 (r_len B (room.deeper (m := 2)).in1 F₂ x₂.a3 (by show l.length ≤ _; omega) fun h₃ t k₃ => w_int fun u => w_gt (w_truthy ?_))))))))))
    have F₃ := fk0 F₂ k₃
    have x₃ := x₂.kept0 k₃
    show if decide ((l.length : Int) > 0) = true then _ else _
    cases l with
    | nil =>
      first | refine if_no (by first | rfl | simp only [List.length_nil, Int.ofNat_zero, Int.natCast_zero, gt_iff_lt, Int.lt_irrefl, decide_false]) ?_ | simp only [List.length_nil, Int.ofNat_zero, Int.natCast_zero, gt_iff_lt, Int.lt_irrefl, decide_false, Bool.false_eq_true, if_false]
      refine w_nil ⟨rfl, F₃, ?_, k₂.trans k₃.nil⟩
      rw [← el]; exact x₃
    | cons it l =>
      have : decide ((((it :: l).length : Nat) : Int) > 0) = true := by simp
      first | refine if_yes (by first | rfl | simp only [this]) ?_ | simp only [this, if_true]
      obtain ⟨t1, I1⟩ := x₃.a1.inst
      obtain ⟨t3, I3⟩ := x₃.a3.inst
      refine w_and (w_tCmp (w_BinOp (w_Attr (w_Attr (w_ld F₃ rfl (cg_recent B F₃.keep x₃.ca (rg_total B F₃.keep I1 (w_Attr (w_Attr (w_ld F₃ rfl (cg_recent_gone B F₃.keep x₃.ca (rg_total B F₃.keep I3 (w_add fun t => w_Attr (w_ld F₃ rfl (cg_most B F₃.keep x₃.ca fun t => w_gt (w_truthy ?_))))))))))))))))
      rw [cutL] at el
      by_cases cnd : total σ.rcn + total (it :: l) > σ.most
      · simp only [cnd, decide_true, if_true] at el ⊢
        refine w_and0 ?_
        first | refine if_yes (by rfl) ?_ | simp only [if_true]
        have hf : findK (it :: l) it.k = some it := by simp [findK]
        refine w_cons (w_ExprAny (r_take B room.deeper (w_Attr (w_ld F₃ rfl (cg_recent_gone B F₃.keep x₃.ca ⟨κ.r3, _, rfl, F₃.keep, x₃.a3, w_Sub (w_Attr (w_Attr (w_ld F₃ rfl (cg_recent_gone B F₃.keep x₃.ca (rg_keys B F₃.keep I3 (w_int fun t => r_first x₃.a3 (by simp at l3; omega) fun t => ⟨it.k, t, it, rfl, F₃.keep, x₃.a3, hf, by show (it :: l).length ≤ _; omega, fun h₄ a V zt k₄ r₄ ha p₄ hV => ?_⟩))))))⟩)))))
        have x₄ := x₃.set3 k₄ r₄
        rw [dropK_head g₂.n3] at x₄
        have F₄ := fk B F₃ (k₄.mono (κ.sub 3)) hL x.lo
        exact w_nil ⟨⟨l.length, by simp, l, rfl, (List.sublist_cons_self it l).trans sl, x₄, el⟩, ⟨_, F₄, fun _ _ => rfl⟩, k₃.nil.trans (k₄.mono sub3)⟩
      · simp only [cnd, decide_false, Bool.false_eq_true, if_false] at el ⊢
        refine w_nil ⟨rfl, F₃, ?_, k₂.trans k₃.nil⟩
        rw [← el]; exact x₃
  rintro f h₅ ⟨rfl, F₅, x₅, k₅⟩
  have g₅ := g.setRg (cutL_sub σ.most (total σ.rcn) σ.rg)
  generalize hσ : ({ σ with rg := cutL σ.most (total σ.rcn) σ.rg } : St) = τ at x₅ g₅
  have hcut : cutS σ = { τ with og := cutL (2 * τ.most) (total τ.rcn + total τ.oft + total τ.rg) τ.og } := by rw [← hσ]; rfl
  -- the shadows of the others
  refine w_cons (w_WhileF (L := h.objs.size) κ.all [] B (fun i h' => ∃ l : List It, i = l.length ∧ l.Sublist τ.og ∧ CacheAt prog w h' κ { τ with og := l } ∧ cutL (2 * τ.most) (total τ.rcn + total τ.oft + total τ.rg) l = cutL (2 * τ.most) (total τ.rcn + total τ.oft + total τ.rg) τ.og) F₅ τ.og.length ⟨τ.og, rfl, List.Sublist.refl _, x₅, rfl⟩ ?_)
  rintro i h₂ m₂ ⟨l, rfl, sl, x₂, el⟩ F₂ e₂ k₂
  have e₂' : m₂ = _ := funext fun y => e₂ y (by simp)
  subst e₂'
  have g₂ := g₅.setOg sl
  have l4 : l.length ≤ 8 := g₂.l4
  have out : ∀ {h'}, Kept (h.objs.size :: κ.all) h₂ h' → CacheAt prog w h' κ { τ with og := l } → l = cutL (2 * τ.most) (total τ.rcn + total τ.oft + total τ.rg) τ.og → R (.ok (.ret .none)) h' := fun k x e => q _ (fin ((k₅.trans k₂).trans k)) (by rw [hcut, ← e]; exact x)
  refine w_tAnd (w_and (w_tCmp (w_bcall B F₂.keep (by k_is) (by boot_by_name) (by decide) (w_items (w_Attr (w_ld F₂ rfl (cg_often_gone B F₂.keep x₂.ca (w_items0 (r_len B (room.deeper (m := 2)).in1 F₂ x₂.a4 (by show l.length ≤ _; omega) fun h₃ t k₃ => w_int fun u => w_gt (w_truthy ?_))))))))))
  have F₃ := fk0 F₂ k₃
  have x₃ := x₂.kept0 k₃
  show if decide ((l.length : Int) > 0) = true then _ else _
  cases l with
  | nil =>
    first | refine if_no (by first | rfl | simp only [List.length_nil, Int.ofNat_zero, Int.natCast_zero, gt_iff_lt, Int.lt_irrefl, decide_false]) ?_ | simp only [List.length_nil, Int.ofNat_zero, Int.natCast_zero, gt_iff_lt, Int.lt_irrefl, decide_false, Bool.false_eq_true, if_false]
    exact w_nil (w_nil (out k₃.nil x₃ (by rw [← el]; rfl)))
  | cons it l =>
    have : decide ((((it :: l).length : Nat) : Int) > 0) = true := by simp
    first | refine if_yes (by first | rfl | simp only [this]) ?_ | simp only [this, if_true]
    generalize hρ : ({ τ with og := it :: l } : St) = ρ at *
    have hog : ρ.og = it :: l := by rw [← hρ]
    have hmost : ρ.most = τ.most := by rw [← hρ]
    refine w_and (w_tCmp (w_bcall B F₃.keep (by k_is) (by boot_by_name) (by decide) (w_items (w_LC [] (fun _ => true) (fun v u => ∀ i, i < 4 → v = .ref (κ.rr i).x → ∃ t, u = .int (total (ρ.rr i)) t) room.hand rfl (by decide) rfl (by decide) rfl (km0 mf_rows B (w_ld F₃ rfl ⟨_, _, rfl, F₃.keep, x₃.ca, c_ca_rows B F₃.keep room.deeper x₃ fun h₄ a k₄ ha p₄ => ?_⟩))))))
    have F₄ := fk0 F₃ k₄
    have x₄ := x₃.kept0 k₄
    refine ⟨a, rowsV κ, rfl, .inr p₄, by simp, fun c' C v h₆ m₆ hC hv hN hm k₆ => w_tests0 ⟨rfl, Kept.refl _ _⟩, fun c' C v h₆ m₆ hC hv _ hN hm k₆ => ?_, fun D h₆ ys hD pD pr k₆ => ?_⟩
    · obtain ⟨i, hi⟩ := List.getElem?_of_mem hv
      obtain ⟨hi4, rfl⟩ := rowsV_at hi
      have x₆ := x₄.kept0 k₆
      obtain ⟨t6, I6⟩ := (x₆.row i).inst
      have kp₆ : In0 base h₆ := fun b o e => k₆.all b o (F₄.keep b o e)
      refine w_Attr (w_ns hN hm (rg_total B kp₆ I6 ⟨fun j hj e => ?_, Kept.refl _ _⟩))
      have : i = j := x₆.rinj hi4 hj (by injection e)
      subst this; exact ⟨t6, rfl⟩
    · have F₆ := fk0 F₄ k₆
      have x₆ := x₄.kept0 k₆
      have e : (rowsV κ).filter (fun _ => true) = rowsV κ := rfl
      rw [e] at pr
      have hI : IntsAre ys [total (ρ.rr 0), total (ρ.rr 1), total (ρ.rr 2), total (ρ.rr 3)] := by
        obtain ⟨v1, v2, v3, v4, rfl, f1, f2, f3, f4⟩ := paired4 (show Paired _ [Value.ref (κ.rr 0).x, .ref (κ.rr 1).x, .ref (κ.rr 2).x, .ref (κ.rr 3).x] ys from pr)
        obtain ⟨t1, rfl⟩ := f1 0 (by decide) rfl
        obtain ⟨t2, rfl⟩ := f2 1 (by decide) rfl
        obtain ⟨t3, rfl⟩ := f3 2 (by decide) rfl
        obtain ⟨t4, rfl⟩ := f4 3 (by decide) rfl
        exact .cons _ _ (.cons _ _ (.cons _ _ (.cons _ _ .nil)))
      have b0 := g₂.tr 0
      have b1 := g₂.tr 1
      have b2 := g₂.tr 2
      have b3 := g₂.tr 3
      refine w_items0 (w_sum room.hand pD hI (by intro z hz; simp only [List.mem_cons, List.not_mem_nil, or_false] at hz; rcases hz with rfl | rfl | rfl | rfl <;> omega) (by simp) fun h₇ t k₇ => ?_)
      have F₇ := fk0 F₆ k₇
      have x₇ := x₆.kept0 k₇
      have mp := g₂.mp
      refine w_BinOp (w_int fun t => w_Attr (w_ld F₇ rfl (cg_most B F₇.keep x₇.ca fun t => w_mul (by omega) fun t => w_gt (w_truthy ?_))))
      have k27 : Kept [] h₂ h₇ := ((k₃.trans k₄).trans k₆).trans k₇
      have esum : ([total (ρ.rr 0), total (ρ.rr 1), total (ρ.rr 2), total (ρ.rr 3)] : List Int).sum = (total τ.rcn + total τ.oft + total τ.rg) + total (it :: l) := by
        rw [← hρ]; simp only [List.sum_cons, List.sum_nil, St.rr]; omega
      rw [esum, hmost]
      rw [cutL] at el
      by_cases cnd : total τ.rcn + total τ.oft + total τ.rg + total (it :: l) > 2 * τ.most
      · simp only [cnd, decide_true, if_true] at el ⊢
        refine w_and0 ?_
        first | refine if_yes (by rfl) ?_ | simp only [if_true]
        obtain ⟨t7, I7⟩ := x₇.a4.inst
        have hf : findK ρ.og it.k = some it := by rw [hog]; simp [findK]
        have a4 : RowAt prog w h₇ κ.r4 (it :: l) := by rw [← hog]; exact x₇.a4
        refine w_cons (w_ExprAny (r_take B room.deeper (w_Attr (w_ld F₇ rfl (cg_often_gone B F₇.keep x₇.ca ⟨κ.r4, _, rfl, F₇.keep, x₇.a4, w_Sub (w_Attr (w_Attr (w_ld F₇ rfl (cg_often_gone B F₇.keep x₇.ca (rg_keys B F₇.keep I7 (w_int fun t => r_first a4 (by simp at l4; omega) fun t => ⟨it.k, t, it, rfl, F₇.keep, x₇.a4, hf, by rw [hog]; omega, fun h₈ a V zt k₈ r₈ ha p₈ hV => ?_⟩))))))⟩)))))
        have x₈ := x₇.set4 k₈ r₈
        rw [hog, dropK_head (by rw [← hog]; exact g₂.n4), ← hρ] at x₈
        have F₈ := fk B F₇ (k₈.mono (κ.sub 4)) hL x.lo
        exact w_nil ⟨⟨l.length, by simp, l, rfl, (List.sublist_cons_self it l).trans sl, x₈, el⟩, ⟨_, F₈, fun _ _ => rfl⟩, k27.nil.trans (k₈.mono sub4)⟩
      · simp only [cnd, decide_false, Bool.false_eq_true, if_false] at el ⊢
        exact w_nil (w_nil (out k27.nil x₇ el))
end
end Mine
end

section
open PySem PySem.W PyProof.Rows PySem.Calls
namespace Mine
theorem step_nn {z a b : Int} (hz : 0 ≤ z) : 0 ≤ stepOf z a b := Int.mul_nonneg hz (by omega)
theorem Good.rowFor {σ : St} (g : Good σ) (k : Int) {z : Int} (hz : 0 ≤ z) : Good (rowForS σ k z).1 := by
  have g0 := g
  obtain ⟨n1, n2, n3, n4, d12, d13, d14, d23, d24, d34, g1, g2, g3, g4, hn, hr, mp, gp⟩ := g
  unfold rowForS
  split
  · have := step_nn (a := total σ.og) (b := total σ.rg) hz
    exact ⟨n1, n2, n3, n4, d12, d13, d14, d23, d24, d34, g1, g2, g3, g4, hn, hr, mp, by dsimp only; omega⟩
  · split
    · have := step_nn (a := total σ.rg) (b := total σ.og) hz
      exact ⟨n1, n2, n3, n4, d12, d13, d14, d23, d24, d34, g1, g2, g3, g4, hn, hr, mp, by dsimp only; omega⟩
    · exact g0
theorem rowFor_rows (σ : St) (k z : Int) : (rowForS σ k z).1.rcn = σ.rcn ∧ (rowForS σ k z).1.oft = σ.oft ∧ (rowForS σ k z).1.rg = σ.rg ∧ (rowForS σ k z).1.og = σ.og ∧ (rowForS σ k z).1.held = σ.held ∧ (rowForS σ k z).1.most = σ.most := by
  unfold rowForS; (repeat' split) <;> exact ⟨rfl, rfl, rfl, rfl, rfl, rfl⟩
/-- k stands in no row -/
def Gone (σ : St) (k : Int) : Prop := hasK σ.rcn k = false ∧ hasK σ.oft k = false ∧ hasK σ.rg k = false ∧ hasK σ.og k = false
theorem forget_gone {σ : St} (g : Good σ) (k : Int) : Gone (forgetS σ k) k := by
  unfold forgetS Gone
  have dd : ∀ l : List It, hasK (dropK l k) k = false := fun l => hasK_drop l k
  cases e1 : hasK σ.rcn k with
  | true => (first | refine if_yes (by rfl) ?_ | simp only [if_true]); exact ⟨dd _, g.d12 k e1, g.d13 k e1, g.d14 k e1⟩
  | false =>
    cases e2 : hasK σ.oft k with
    | true => simp only [Bool.false_eq_true, if_false, if_true]; exact ⟨e1, dd _, g.d23 k e2, g.d24 k e2⟩
    | false =>
      cases e3 : hasK σ.rg k with
      | true => simp only [Bool.false_eq_true, if_false, if_true]; exact ⟨e1, e2, dd _, g.d34 k e3⟩
      | false =>
        cases e4 : hasK σ.og k with
        | true => simp only [Bool.false_eq_true, if_false, if_true]; exact ⟨e1, e2, e3, dd _⟩
        | false => (first | refine if_no (by rfl) ?_ | simp only [Bool.false_eq_true, if_false]); exact ⟨e1, e2, e3, e4⟩
theorem putOut_gone {σ : St} {k j : Int} (h : Gone σ k) (hj : hasS σ j = true) : Gone (putOut σ j) k := by
  obtain ⟨h1, h2, h3, h4⟩ := h
  have ne : j ≠ k := fun e => by rw [e, hasS, h1, h2] at hj; cases hj
  have dd : ∀ l : List It, hasK l k = false → hasK (dropK l j) k = false := fun l e => by rw [hasK_dropK, e]; rfl
  cases e : hasK σ.rcn j with
  | true =>
    obtain ⟨i, hi⟩ := findK_has e
    rw [putOut_mem hi]
    exact ⟨dd _ h1, h2, by dsimp only; rw [hasK_append, h3, hasK_one]; simp [ne], h4⟩
  | false =>
    have e2 : hasK σ.oft j = true := by rw [hasS, e, Bool.false_or] at hj; exact hj
    obtain ⟨i, hi⟩ := findK_has e2
    rw [putOut_mem2 e hi]
    exact ⟨h1, dd _ h2, h3, by dsimp only; rw [hasK_append, h4, hasK_one]; simp [ne]⟩
theorem makeRoom_gone {k z : Int} {s : Bool} : ∀ (n : Nat) {σ : St}, Gone σ k → Gone (makeRoom n σ z s) k
  | 0, σ, h => h
  | n + 1, σ, h => by
    unfold makeRoom
    split
    · split
      · exact h
      · rename_i j hj
        exact makeRoom_gone n (putOut_gone h (nextOut_has hj))
    · exact h
theorem Good.add {σ : St} (g : Good σ) {i : It} (b : Bool) (h : Gone σ i.k) (hi : (0 ≤ i.k ∧ i.k < 8) ∧ 1 ≤ i.z ∧ i.z ≤ 5) : Good (addS σ b i) := by
  obtain ⟨n1, n2, n3, n4, d12, d13, d14, d23, d24, d34, g1, g2, g3, g4, hn, hr, mp, gp⟩ := g
  obtain ⟨h1, h2, h3, h4⟩ := h
  unfold addS
  cases b with
  | false =>
    first | refine if_no (by rfl) ?_ | simp only [Bool.false_eq_true, if_false]
    exact ⟨keysNd_add n1 h1, n2, n3, n4, d12.add h2, d13.add h3, d14.add h4, d23, d24, d34, g1.add hi, g2, g3, g4, hn, hr, mp, gp⟩
  | true =>
    first | refine if_yes (by rfl) ?_ | simp only [if_true]
    exact ⟨n1, keysNd_add n2 h2, n3, n4, (d12.symm.add h1).symm, d13, d14, d23.add h3, d24.add h4, d34, g1, g2.add hi, g3, g4, hn, hr, mp, gp⟩
theorem Good.room {σ : St} (g : Good σ) (z : Int) (s : Bool) : Good (roomS σ z s) := Good.makeRoom _ g z s

section
variable {prog : Program} {w : World} {c : Cx} {base h : Heap} {A : Around} {R : Result → Heap → Prop} {κ : CA} {σ : St}

theorem c_step {z a b : Int} {zt at' bt : Tok} (B : Base w base) (kp : In0 base h) (room : Room A 1) (hz : 0 ≤ z ∧ z ≤ 1000) (hb : b ≤ 1000)
    (q : ∀ h' t, Kept [] h h' → R (.ok (.ret (.int (stepOf z a b) t))) h') : C prog w c A (.call (.ref 284) ⟨[.int z zt, .int a at', .int b bt], []⟩) R h := by
  refine cf [("size", .int z zt), ("other", .int a at'), ("own", .int b bt)] B kp room (by k_is) (by k_is) (fun _ _ => BindsTo.of_eq rfl) (locs rfl) (fun h₁ F k₁ => ?_)
  refine w_cons (w_Return (w_BinOp (w_ld F rfl (w_bcall B F.keep (by k_is) (by boot_by_name) (by decide) (w_items (w_int fun t => w_items (w_BinOp (w_ld F rfl (w_bcall B F.keep (by k_is) (by boot_by_name) (by decide) (w_items (w_int fun t => w_items (w_ld F rfl (w_items0 (w_max room.hand fun h₂ t₂ k₂ => w_div (by omega) (by omega) fun t => w_items0 (w_max room.hand fun h₃ t₃ k₃ => w_mul (by omega) fun t => q _ t ((k₁.trans k₂).trans k₃))))))))))))))))

theorem c_ca_row_for {k z : Int} {kt zt : Tok} (B : Base w base) (kp : In0 base h) (room : Room A 3) (x : CacheAt prog w h κ σ) (g : Good σ) (hz : 0 ≤ z ∧ z ≤ 1000)
    (q : ∀ h', Kept κ.all h h' → CacheAt prog w h' κ (rowForS σ k z).1 → R (.ok (.ret (.ref (if (rowForS σ k z).2 = true then κ.r2.x else κ.r1.x)))) h') : C prog w c A (.call (.ref 185) ⟨[.ref κ.x, .int k kt, .int z zt], []⟩) R h := by
  refine cf [("self", .ref κ.x), ("key", .int k kt), ("size", .int z zt)] B kp room (by k_is) (by k_is) (fun _ _ => BindsTo.of_eq rfl) (locs rfl) (fun h₁ F k₁ => ?_)
  have hL := not_mem_of_lt x.lt
  have x₁ := x.kept0 k₁
  have b3 := g.tr 2
  have b4 := g.tr 3
  simp only [St.rr] at b3 b4
  refine w_cons (w_If (w_tval (r_has B room.deeper (w_Attr (w_ld F rfl (cg_recent_gone B F.keep x₁.ca ⟨κ.r3, σ.rg, rfl, F.keep, x₁.a3, w_ld F rfl ⟨k, kt, rfl, F.keep, x₁.a3, fun h₂ k₂ => w_truthy ?_⟩⟩))))))
  have F₂ := fk0 F k₂
  have x₂ := x₁.kept0 k₂
  cases e : hasK σ.rg k with
  | true =>
    first | refine if_yes (by rfl) ?_ | simp only [if_true]
    refine w_cons (w_AssignAttr (w_BinOp (w_Attr (w_Attr (w_ld F₂ rfl (cg_counts B F₂.keep x₂.ca (kg_rs B F₂.keep x₂.cn fun t => w_int fun u => w_add fun t' => w_Attr (w_ld F₂ rfl (cg_counts B F₂.keep x₂.ca (ks_rs B F₂.keep x₂.ne.2 x₂.cn fun h₃ n₃ k₃ => ?_))))))))))
    have x₃ := x₂.setCn k₃ n₃
    have F₃ := fk B F₂ (k₃.mono κ.cd1) hL x.lo
    obtain ⟨t3, I3⟩ := x₃.a3.inst
    obtain ⟨t4, I4⟩ := x₃.a4.inst
    refine w_cons (w_AssignAttr (w_bcall B F₃.keep (by k_is) (by boot_by_name) (by decide) (w_items (w_Attr (w_ld F₃ rfl (cg_most B F₃.keep x₃.ca fun tm => w_items (w_BinOp (w_Attr (w_ld F₃ rfl (cg_goal B F₃.keep x₃.ca fun tg => w_fcall B F₃.keep (by k_is) (by k_is) (w_items (w_ld F₃ rfl (w_items (w_Attr (w_Attr (w_ld F₃ rfl (cg_often_gone B F₃.keep x₃.ca (rg_total B F₃.keep I4 (w_items (w_Attr (w_Attr (w_ld F₃ rfl (cg_recent_gone B F₃.keep x₃.ca (rg_total B F₃.keep I3 (w_items0 ⟨F₃.keep, c_step B F₃.keep room.deeper hz (by dsimp only; omega) fun h₄ t₄ k₄ => w_add fun t₅ => w_items0 (w_min room.hand fun h₆ t₆ k₆ => ?_)⟩)))))))))))))))))))))))))
    have F₆ := fk0 (fk0 F₃ k₄) k₆
    have x₆ := (x₃.kept0 k₄).kept0 k₆
    refine w_ld F₆ rfl (cs_goal B F₆.keep x₆.ne.1 x₆.ca fun h₇ ca k₇ => ?_)
    have x₇ := x₆.setCa k₇ ca
    have F₇ := fk B F₆ (k₇.mono κ.d1) hL x.lo
    refine w_cons (w_Return (w_Attr (w_ld F₇ rfl (cg_often B F₇.keep x₇.ca ?_))))
    have := q h₇ (Kept.fin (((((k₁.nil.trans k₂.nil).trans (k₃.mono κ.cd0)).trans k₄.nil).trans k₆.nil).trans (k₇.mono κ.d0)))
    simp only [rowForS, e, if_true] at this
    exact this x₇
  | false =>
    first | refine if_no (by rfl) ?_ | simp only [Bool.false_eq_true, if_false]
    refine w_nil (w_cons (w_If (w_tval (r_has B room.deeper (w_Attr (w_ld F₂ rfl (cg_often_gone B F₂.keep x₂.ca ⟨κ.r4, σ.og, rfl, F₂.keep, x₂.a4, w_ld F₂ rfl ⟨k, kt, rfl, F₂.keep, x₂.a4, fun h₃ k₃ => w_truthy ?_⟩⟩)))))))
    have F₃ := fk0 F₂ k₃
    have x₃ := x₂.kept0 k₃
    cases e2 : hasK σ.og k with
    | true =>
      first | refine if_yes (by rfl) ?_ | simp only [if_true]
      refine w_cons (w_AssignAttr (w_BinOp (w_Attr (w_Attr (w_ld F₃ rfl (cg_counts B F₃.keep x₃.ca (kg_os B F₃.keep x₃.cn fun t => w_int fun u => w_add fun t' => w_Attr (w_ld F₃ rfl (cg_counts B F₃.keep x₃.ca (ks_os B F₃.keep x₃.ne.2 x₃.cn fun h₄ n₄ k₄ => ?_))))))))))
      have x₄ := x₃.setCn k₄ n₄
      have F₄ := fk B F₃ (k₄.mono κ.cd1) hL x.lo
      obtain ⟨t3, I3⟩ := x₄.a3.inst
      obtain ⟨t4, I4⟩ := x₄.a4.inst
      refine w_cons (w_AssignAttr (w_bcall B F₄.keep (by k_is) (by boot_by_name) (by decide) (w_items (w_int fun t0 => w_items (w_BinOp (w_Attr (w_ld F₄ rfl (cg_goal B F₄.keep x₄.ca fun tg => w_fcall B F₄.keep (by k_is) (by k_is) (w_items (w_ld F₄ rfl (w_items (w_Attr (w_Attr (w_ld F₄ rfl (cg_recent_gone B F₄.keep x₄.ca (rg_total B F₄.keep I3 (w_items (w_Attr (w_Attr (w_ld F₄ rfl (cg_often_gone B F₄.keep x₄.ca (rg_total B F₄.keep I4 (w_items0 ⟨F₄.keep, c_step B F₄.keep room.deeper hz (by dsimp only; omega) fun h₅ t₅ k₅ => w_sub fun t₆ => w_items0 (w_max room.hand fun h₆ t₆ k₆ => ?_)⟩)))))))))))))))))))))))
      have F₆ := fk0 (fk0 F₄ k₅) k₆
      have x₆ := (x₄.kept0 k₅).kept0 k₆
      refine w_ld F₆ rfl (cs_goal B F₆.keep x₆.ne.1 x₆.ca fun h₇ ca k₇ => ?_)
      have x₇ := x₆.setCa k₇ ca
      have F₇ := fk B F₆ (k₇.mono κ.d1) hL x.lo
      refine w_cons (w_Return (w_Attr (w_ld F₇ rfl (cg_often B F₇.keep x₇.ca ?_))))
      have := q h₇ (Kept.fin ((((((k₁.nil.trans k₂.nil).trans k₃.nil).trans (k₄.mono κ.cd0)).trans k₅.nil).trans k₆.nil).trans (k₇.mono κ.d0)))
      simp only [rowForS, e, e2, if_true, Bool.false_eq_true, if_false] at this
      exact this x₇
    | false =>
      first | refine if_no (by rfl) ?_ | simp only [Bool.false_eq_true, if_false]
      refine w_nil (w_cons (w_Return (w_IfExp (w_tval (km mf_has B (w_ld F₃ rfl ⟨_, _, rfl, F₃.keep, x₃.ca, w_items (w_ld F₃ rfl (w_items0 ⟨F₃.keep, c_ca_has B F₃.keep room.deeper x₃ fun h₄ k₄ => w_truthy ?_⟩))⟩))))))
      have F₄ := fk0 F₃ k₄
      have x₄ := x₃.kept0 k₄
      have := q h₄ (((k₁.trans k₂).trans k₃).trans k₄).nil
      simp only [rowForS, e, e2, Bool.false_eq_true, if_false] at this
      cases e5 : hasS σ k with
      | true => rw [e5] at this; simp only [if_true] at this ⊢; exact w_Attr (w_ld F₄ rfl (cg_often B F₄.keep x₄.ca (this x₄)))
      | false => rw [e5] at this; simp only [Bool.false_eq_true, if_false] at this ⊢; exact w_Attr (w_ld F₄ rfl (cg_recent B F₄.keep x₄.ca (this x₄)))
end
end Mine
end

section
open PySem PySem.W PyProof.Rows PySem.Calls
namespace Mine
section
variable {prog : Program} {w : World} {c : Cx} {base h : Heap} {A : Around} {R : Result → Heap → Prop} {κ : CA} {σ : St}

theorem c_ca_put {k z : Int} {kt zt : Tok} {V : Value} {v : Option Int} (B : Base w base) (kp : In0 base h) (room : Room A 4) (x : CacheAt prog w h κ σ) (g : Good σ) (hk : 0 ≤ k ∧ k < 8) (hz : 1 ≤ z ∧ z ≤ 5) (hV : Val V v)
    (q : ∀ h', Kept κ.all h h' → CacheAt prog w h' κ (putS σ k v z).1 → R (.ok (.ret (.bool (putS σ k v z).2))) h') : C prog w c A (.call (.ref 178) ⟨[.ref κ.x, .int k kt, V, .int z zt], []⟩) R h := by
  refine cf [("self", .ref κ.x), ("key", .int k kt), ("value", V), ("size", .int z zt)] B kp room (by k_is) (by k_is) (fun s e => binds_K (K := KF w.params) (by rw [e]; exact B.In kp) rfl (by k_is) rfl rfl rfl) (locs rfl) (fun h₁ F k₁ => ?_)
  have hL := not_mem_of_lt x.lt
  have x₁ := x.kept0 k₁
  -- if size < 1
  refine w_cons (w_If (w_tCmp (w_ld F rfl (w_int fun t => w_lt (w_truthy ?_)))))
  have c1 : decide (z < 1) = false := by simp; omega
  first | refine if_no (by first | rfl | simp only [c1]) ?_ | simp only [c1, Bool.false_eq_true, if_false]
  -- if size > self.most
  refine w_nil (w_cons (w_If (w_tCmp (w_ld F rfl (w_Attr (w_ld F rfl (cg_most B F.keep x₁.ca fun t => w_gt (w_truthy ?_))))))))
  by_cases c2 : z > σ.most
  · first | refine if_yes (by first | rfl | simp only [c2, decide_true]) ?_ | simp only [c2, decide_true, if_true]
    refine w_cons (w_ExprAny (km mf_drop B (w_ld F rfl ⟨_, _, rfl, F.keep, x₁.ca, w_items (w_ld F rfl (w_items0 ⟨F.keep, c_ca_drop B F.keep room.deeper x₁ g fun h₂ k₂ x₂ => ?_⟩))⟩)))
    refine w_cons (w_Return (w_bool ?_))
    have := q h₂ (Kept.fin (k₁.nil.trans (k₂.mono inl)))
    simp only [putS, c2, if_true] at this
    exact this x₂
  · first | refine if_no (by first | rfl | simp only [c2, decide_false]) ?_ | simp only [c2, decide_false, Bool.false_eq_true, if_false]
    -- goal = self.row_for(key, size)
    refine w_nil (w_cons (w_AssignName (km mf_row_for B (w_ld F rfl ⟨_, _, rfl, F.keep, x₁.ca, w_items (w_ld F rfl (w_items (w_ld F rfl (w_items0 ⟨F.keep, c_ca_row_for B F.keep room.deeper x₁ g (by omega) fun h₂ k₂ x₂ => ?_⟩))))⟩))))
    have F₂ := fk B F k₂ hL x.lo
    refine w_st F₂ fun h₃ F₃ k₃ => ?_
    have x₃ := x₂.kept k₃ (notL hL)
    have g₃ := g.rowFor k (by omega : (0 : Int) ≤ z)
    have er := rowFor_rows σ k z
    generalize hp : rowForS σ k z = p at *
    obtain ⟨τ, b⟩ := p
    dsimp only at x₃ g₃ er
    -- is_second
    refine w_cons (w_AssignName (r_has B room.deeper (w_Attr (w_ld F₃ rfl (cg_often_gone B F₃.keep x₃.ca ⟨κ.r4, τ.og, rfl, F₃.keep, x₃.a4, w_ld F₃ rfl ⟨k, kt, rfl, F₃.keep, x₃.a4, fun h₄ k₄ => ?_⟩⟩)))))
    rw [er.2.2.2.1]
    refine w_st (fk0 F₃ k₄) fun h₅ F₅ k₅ => ?_
    have x₅ := (x₃.kept0 k₄).kept k₅ (notL hL)
    -- self.forget(key)
    refine w_cons (w_ExprAny (km mf_forget B (w_ld F₅ rfl ⟨_, _, rfl, F₅.keep, x₅.ca, w_items (w_ld F₅ rfl (w_items0 ⟨F₅.keep, c_ca_forget B F₅.keep room.deeper x₅ g₃ fun h₆ V' k₆ x₆ => ?_⟩))⟩)))
    have F₆ := fk B F₅ k₆ hL x.lo
    have g₆ := g₃.forget k
    have go := forget_gone g₃ k
    -- self.make_room(size, is_second)
    refine w_cons (w_ExprAny (km mf_make_room B (w_ld F₆ rfl ⟨_, _, rfl, F₆.keep, x₆.ca, w_items (w_ld F₆ rfl (w_items (w_ld F₆ rfl (w_items0 ⟨F₆.keep, c_ca_make_room B F₆.keep room.deeper x₆ g₆ fun h₇ k₇ x₇ => ?_⟩))))⟩)))
    have F₇ := fk B F₆ k₇ hL x.lo
    have g₇ := g₆.room z (hasK σ.og k)
    have go₇ : Gone (roomS (forgetS τ k) z (hasK σ.og k)) k := makeRoom_gone _ go
    -- goal.add(key, value, size)
    have k17 : Kept (κ.all ++ [h.objs.size]) h h₇ := (((((k₁.nil.trans (k₂.mono inl)).trans (k₃.mono inr)).trans k₄.nil).trans (k₅.mono inr)).trans (k₆.mono inl)).trans (k₇.mono inl)
    have res : (putS σ k v z).1 = cutS (addS (roomS (forgetS τ k) z (hasK σ.og k)) b ⟨k, v, z⟩) ∧ (putS σ k v z).2 = true := by
      constructor <;> (first | refine if_no (by first | rfl | simp only [putS, c2, hp]) ?_ | simp only [putS, c2, if_false, hp])
    rw [res.1, res.2] at q
    refine w_cons (W.post (Q := fun f h' => f = .next ∧ CacheAt prog w h' κ (addS (roomS (forgetS τ k) z (hasK σ.og k)) b ⟨k, v, z⟩) ∧ Kept κ.all h₇ h') ?_ ?_)
    · cases b with
      | true =>
        refine w_ExprAny (r_add B room.deeper (w_ld F₇ rfl ⟨κ.r2, _, rfl, F₇.keep, x₇.a2, w_ld F₇ rfl (w_ld F₇ rfl (w_ld F₇ rfl ⟨k, kt, v, z, zt, rfl, rfl, hV, F₇.keep, x₇.a2, go₇.2.1, by have := g₇.l2; omega, fun h₈ k₈ r₈ => ⟨rfl, ?_, k₈.mono (κ.sub 2)⟩⟩))⟩))
        exact x₇.set2 k₈ r₈
      | false =>
        refine w_ExprAny (r_add B room.deeper (w_ld F₇ rfl ⟨κ.r1, _, rfl, F₇.keep, x₇.a1, w_ld F₇ rfl (w_ld F₇ rfl (w_ld F₇ rfl ⟨k, kt, v, z, zt, rfl, rfl, hV, F₇.keep, x₇.a1, go₇.1, by have := g₇.l1; omega, fun h₈ k₈ r₈ => ⟨rfl, ?_, k₈.mono (κ.sub 1)⟩⟩))⟩))
        exact x₇.set1 k₈ r₈
    rintro f h₈ ⟨rfl, x₈, k₈⟩
    have F₈ := fk B F₇ k₈ hL x.lo
    have g₈ : Good (addS (roomS (forgetS τ k) z (hasK σ.og k)) b ⟨k, v, z⟩) := g₇.add _ go₇ ⟨hk, hz⟩
    refine w_cons (w_ExprAny (km0 mf_cut_shadows B (w_ld F₈ rfl ⟨_, _, rfl, F₈.keep, x₈.ca, c_ca_cut B F₈.keep room.deeper x₈ g₈ fun h₉ k₉ x₉ => ?_⟩)))
    exact w_cons (w_Return (w_bool (q h₉ (Kept.fin ((k17.trans (k₈.mono inl)).trans (k₉.mono inl))) x₉)))

theorem c_ca_hold {k : Int} {kt : Tok} (B : Base w base) (kp : In0 base h) (room : Room A 3) (x : CacheAt prog w h κ σ) (g : Good σ) (hk : hasS σ k = true)
    (q : ∀ h', Kept κ.all h h' → CacheAt prog w h' κ (holdS σ k) → R (.ok (.ret .none)) h') : C prog w c A (.call (.ref 246) ⟨[.ref κ.x, .int k kt], []⟩) R h := by
  refine cf [("self", .ref κ.x), ("key", .int k kt)] B kp room (by k_is) (by k_is) (fun _ _ => BindsTo.of_eq rfl) (locs rfl) (fun h₁ F k₁ => ?_)
  have hL := not_mem_of_lt x.lt
  have x₁ := x.kept0 k₁
  refine w_cons (w_If (w_tNot (w_tval (km mf_has B (w_ld F rfl ⟨_, _, rfl, F.keep, x₁.ca, w_items (w_ld F rfl (w_items0 ⟨F.keep, c_ca_has B F.keep room.deeper x₁ fun h₂ k₂ => w_truthy ?_⟩))⟩)))))
  rw [hk]
  first | refine if_no (by first | rfl | simp only [Bool.not_true]) ?_ | simp only [Bool.not_true, Bool.false_eq_true, if_false]
  have F₂ := fk0 F k₂
  have x₂ := x₁.kept0 k₂
  obtain ⟨lo, cl, e, d⟩ := x₂.held
  have hlen : cl.length ≤ 8 := by
    have h8 := nodup_range_len g.hn (fun j hj => by obtain ⟨p, hp, rfl⟩ := List.mem_map.mp hj; exact g.hr p hp)
    rw [← e] at h8; simpa using h8
  obtain ⟨f, hf, ev⟩ := held_at e k
  refine w_nil (w_cons (w_AssignSub (w_BinOp (w_get2 (w_Attr (w_ld F₂ rfl (cg_held B F₂.keep x₂.ca ⟨_, rfl, lo, ⟨_, d⟩, w_ld F₂ rfl (w_int fun t => ⟨k, kt, _, rfl, d, w_int fun u => ?_⟩)⟩)))))))
  have : ∃ t', (Option.map f (hat σ.held k)).getD (.int 0 t) = .int ((hat σ.held k).getD 0) t' := by
    cases hat σ.held k with
    | none => exact ⟨t, rfl⟩
    | some n => obtain ⟨t', e⟩ := hf n; exact ⟨t', e⟩
  obtain ⟨t', e'⟩ := this
  rw [ev, e']
  refine w_add fun t'' => w_Attr (w_ld F₂ rfl (cg_held B F₂.keep x₂.ca (w_ld F₂ rfl (w_dset d (by simp; omega) fun h₃ d₃ k₃ => ?_))))
  have x₃ := x₂.setHeld k₃ (held_set lo e d₃)
  exact w_nil (q h₃ (Kept.fin ((k₁.nil.trans k₂.nil).trans (k₃.mono κ.ha0))) x₃)
end
end Mine
end

section
open PySem PySem.W PyProof.Rows PySem.Calls
namespace Mine
theorem Good.setHeld {σ : St} (g : Good σ) {l : List (Int × Int)} (hn : (l.map (·.1)).Nodup) (hr : ∀ p ∈ l, 0 ≤ p.1 ∧ p.1 < 8) : Good { σ with held := l } := by
  obtain ⟨n1, n2, n3, n4, d12, d13, d14, d23, d24, d34, g1, g2, g3, g4, _, _, mp, gp⟩ := g
  exact ⟨n1, n2, n3, n4, d12, d13, d14, d23, d24, d34, g1, g2, g3, g4, hn, hr, mp, gp⟩
theorem Good.wo {σ : St} (g : Good σ) (k : Int) : Good { σ with held := hwo σ.held k } :=
  g.setHeld (g.hn.sublist (List.filter_sublist.map _)) fun p hp => g.hr p (List.mem_filter.mp hp).1
theorem hst_keys {l : List (Int × Int)} {k n : Int} (h : hin l k = true) : (hst l k n).map (·.1) = l.map (·.1) := by
  unfold hst
  have h' : (l.any fun kv => decide (kv.1 = k)) = true := h
  rw [h', if_pos rfl, List.map_map]
  apply List.map_congr_left
  intro p _
  simp only [Function.comp]; split <;> rfl
theorem hst_keys' {l : List (Int × Int)} {k n : Int} (h : hin l k = false) : (hst l k n).map (·.1) = l.map (·.1) ++ [k] := by
  unfold hst
  have h' : (l.any fun kv => decide (kv.1 = k)) = false := h
  rw [h']; simp
theorem Good.hst {σ : St} (g : Good σ) {k n : Int} (hk : 0 ≤ k ∧ k < 8) : Good { σ with held := hst σ.held k n } := by
  cases e : hin σ.held k with
  | true =>
    refine g.setHeld (by rw [hst_keys e]; exact g.hn) fun p hp => ?_
    have : p.1 ∈ (Mine.hst σ.held k n).map (·.1) := List.mem_map_of_mem hp
    rw [hst_keys e] at this
    obtain ⟨p', hp', e'⟩ := List.mem_map.mp this
    rw [← e']; exact g.hr p' hp'
  | false =>
    refine g.setHeld ?_ fun p hp => ?_
    · rw [hst_keys' e, List.nodup_append]
      refine ⟨g.hn, by simp, ?_⟩
      intro a ha b hb
      rw [List.mem_singleton.mp hb]
      rintro rfl
      obtain ⟨p, hp, e'⟩ := List.mem_map.mp ha
      have := List.any_eq_false.mp e p hp
      simp [e'] at this
    · have : p.1 ∈ (Mine.hst σ.held k n).map (·.1) := List.mem_map_of_mem hp
      rw [hst_keys' e] at this
      rcases List.mem_append.mp this with m | m
      · obtain ⟨p', hp', e'⟩ := List.mem_map.mp m; rw [← e']; exact g.hr p' hp'
      · rw [List.mem_singleton.mp m]; exact hk
theorem hat_hst {l : List (Int × Int)} {k n : Int} (h : hin l k = true) : hat (hst l k n) k = some n := by
  unfold hst hat
  have h' : (l.any fun kv => decide (kv.1 = k)) = true := h
  rw [h', if_pos rfl, List.find?_map]
  have e : ((fun kv : Int × Int => decide (kv.1 = k)) ∘ fun kv => if kv.1 = k then (kv.1, n) else kv) = fun kv => decide (kv.1 = k) := by
    funext p; simp only [Function.comp]; split <;> simp_all
  rw [e]
  obtain ⟨p, hp⟩ : ∃ p, l.find? (fun kv => decide (kv.1 = k)) = some p := by
    cases q : l.find? (fun kv => decide (kv.1 = k)) with
    | some p => exact ⟨p, rfl⟩
    | none => rw [List.find?_eq_none] at q; obtain ⟨p, hp, e⟩ := List.any_eq_true.mp h'; exact absurd e (q p hp)
  rw [hp]
  have := List.find?_some hp
  simp at this
  simp [this]
theorem hin_hat {l : List (Int × Int)} {k : Int} (h : hin l k = true) : ∃ n, hat l k = some n := by
  unfold hat
  cases q : l.find? (fun kv => decide (kv.1 = k)) with
  | some p => exact ⟨p.2, rfl⟩
  | none => rw [List.find?_eq_none] at q; obtain ⟨p, hp, e⟩ := List.any_eq_true.mp h; exact absurd e (q p hp)
theorem Good.len {σ : St} (g : Good σ) : σ.held.length ≤ 8 := by
  have h8 := nodup_range_len g.hn (fun j hj => by obtain ⟨p, hp, rfl⟩ := List.mem_map.mp hj; exact g.hr p hp)
  simpa using h8
theorem Good.resize {σ : St} (g : Good σ) {m : Int} (hm : 1 ≤ m ∧ m ≤ 12) : Good { σ with most := m, goal := min σ.goal m } := by
  obtain ⟨n1, n2, n3, n4, d12, d13, d14, d23, d24, d34, g1, g2, g3, g4, hn, hr, mp, gp⟩ := g
  exact ⟨n1, n2, n3, n4, d12, d13, d14, d23, d24, d34, g1, g2, g3, g4, hn, hr, hm, by dsimp only; omega⟩

section
variable {prog : Program} {w : World} {c : Cx} {base h : Heap} {A : Around} {R : Result → Heap → Prop} {κ : CA} {σ : St}

theorem c_ca_release {k : Int} {kt : Tok} (B : Base w base) (kp : In0 base h) (room : Room A 4) (x : CacheAt prog w h κ σ) (g : Good σ) (hk : 0 ≤ k ∧ k < 8) (hh : hin σ.held k = true)
    (q : ∀ h', Kept κ.all h h' → CacheAt prog w h' κ (releaseS σ k) → R (.ok (.ret .none)) h') : C prog w c A (.call (.ref 253) ⟨[.ref κ.x, .int k kt], []⟩) R h := by
  refine cf [("self", .ref κ.x), ("key", .int k kt)] B kp room (by k_is) (by k_is) (fun _ _ => BindsTo.of_eq rfl) (locs rfl) (fun h₁ F k₁ => ?_)
  have hL := not_mem_of_lt x.lt
  have x₁ := x.kept0 k₁
  obtain ⟨lo, cl, e, d⟩ := x₁.held
  have hl := g.len
  have hlen : cl.length = σ.held.length := by rw [← e]; simp
  -- if key not in self.held
  refine w_cons (w_If (w_tCmp (w_ld F rfl (w_Attr (w_ld F rfl (cg_held B F.keep x₁.ca (w_dnotin d lo (w_truthy ?_))))))))
  rw [held_any e, hh]
  first | refine if_no (by first | rfl | simp only [Bool.not_true]) ?_ | simp only [Bool.not_true, Bool.false_eq_true, if_false]
  -- self.held[key] = self.held[key] - 1
  obtain ⟨f, hf, ev⟩ := held_at e k
  obtain ⟨n, hn⟩ := hin_hat hh
  obtain ⟨tn, en⟩ := hf n
  rw [hn, Option.map_some, en] at ev
  refine w_nil (w_cons (w_AssignSub (w_BinOp (w_Sub (w_Attr (w_ld F rfl (cg_held B F.keep x₁.ca (w_ld F rfl (w_dget d ev (w_int fun t => w_sub fun t' => w_Attr (w_ld F rfl (cg_held B F.keep x₁.ca (w_ld F rfl (w_dset d (by simp; omega) fun h₂ d₂ k₂ => ?_))))))))))))))
  have H₂ := held_set lo e d₂
  have x₂ := x₁.setHeld k₂ H₂
  have g₂ := g.hst (n := n - 1) hk
  have F₂ := fk B F (k₂.mono κ.ha1) hL x.lo
  have res : releaseS σ k = if n - 1 = 0 then settleS { σ with held := hwo (hst σ.held k (n - 1)) k } else { σ with held := hst σ.held k (n - 1) } := by
    unfold releaseS; rw [hn]; rfl
  -- if self.held[key] == 0
  obtain ⟨lo₂, cl₂, e₂, d₂⟩ := H₂
  obtain ⟨f₂, hf₂, ev₂⟩ := held_at e₂ k
  obtain ⟨tn₂, en₂⟩ := hf₂ (n - 1)
  rw [hat_hst hh, Option.map_some, en₂] at ev₂
  have hlen₂ : cl₂.length ≤ 8 := by have := g₂.len; rw [← e₂] at this; simpa using this
  refine w_cons (w_If (w_tCmp (w_Sub (w_Attr (w_ld F₂ rfl (cg_held B F₂.keep x₂.ca (w_ld F₂ rfl (w_dget d₂ ev₂ (w_int fun t => w_eq (w_truthy ?_))))))))))
  by_cases c1 : n - 1 = 0
  · have c1' : (n - 1 == 0) = true := by simpa using c1
    rw [c1']
    first | refine if_yes (by rfl) ?_ | simp only [if_true]
    rw [res, if_pos c1] at q
    refine w_cons (w_ExprAny (w_pop1 (w_Attr (w_ld F₂ rfl (cg_held B F₂.keep x₂.ca ⟨_, rfl, ⟨_, d₂⟩, w_ld F₂ rfl ⟨k, kt, _, _, rfl, d₂, by simp; omega, ev₂, fun h₃ d₃ k₃ => ?_⟩⟩)))))
    have x₃ := x₂.setHeld k₃ (held_wo lo₂ e₂ d₃)
    have g₃ := g₂.wo k
    have F₃ := fk B F₂ (k₃.mono κ.ha1) hL x.lo
    refine w_cons (w_ExprAny (km mf_make_room B (w_ld F₃ rfl ⟨_, _, rfl, F₃.keep, x₃.ca, w_items (w_int fun t => w_items (w_bool (w_items0 ⟨F₃.keep, c_ca_make_room B F₃.keep room.deeper x₃ g₃ fun h₄ k₄ x₄ => ?_⟩)))⟩)))
    have F₄ := fk B F₃ k₄ hL x.lo
    have g₄ := g₃.room 0 false
    refine w_cons (w_ExprAny (km0 mf_cut_shadows B (w_ld F₄ rfl ⟨_, _, rfl, F₄.keep, x₄.ca, c_ca_cut B F₄.keep room.deeper x₄ g₄ fun h₅ k₅ x₅ => ?_⟩)))
    exact w_nil (w_nil (q h₅ (Kept.fin ((((k₁.nil.trans (k₂.mono κ.ha0)).trans (k₃.mono κ.ha0)).trans (k₄.mono inl)).trans (k₅.mono inl))) x₅))
  · have c1' : (n - 1 == 0) = false := by simpa using c1
    rw [c1']
    first | refine if_no (by rfl) ?_ | simp only [Bool.false_eq_true, if_false]
    rw [res, if_neg c1] at q
    exact w_nil (w_nil (q h₂ (Kept.fin (k₁.nil.trans (k₂.mono κ.ha0))) x₂))

theorem c_ca_resize {m : Int} {mt : Tok} (B : Base w base) (kp : In0 base h) (room : Room A 4) (x : CacheAt prog w h κ σ) (g : Good σ) (hm : 1 ≤ m ∧ m ≤ 12)
    (q : ∀ h', Kept κ.all h h' → CacheAt prog w h' κ (resizeS σ m) → R (.ok (.ret .none)) h') : C prog w c A (.call (.ref 260) ⟨[.ref κ.x, .int m mt], []⟩) R h := by
  refine cf [("self", .ref κ.x), ("most", .int m mt)] B kp room (by k_is) (by k_is) (fun _ _ => BindsTo.of_eq rfl) (locs rfl) (fun h₁ F k₁ => ?_)
  have hL := not_mem_of_lt x.lt
  have x₁ := x.kept0 k₁
  refine w_cons (w_If (w_tCmp (w_ld F rfl (w_int fun t => w_lt (w_truthy ?_)))))
  have c1 : decide (m < 1) = false := by simp; omega
  first | refine if_no (by first | rfl | simp only [c1]) ?_ | simp only [c1, Bool.false_eq_true, if_false]
  refine w_nil (w_cons (w_AssignAttr (w_ld F rfl (w_ld F rfl (cs_most B F.keep x₁.ne.1 x₁.ca fun h₂ ca₂ k₂ => ?_)))))
  have x₂ := x₁.setCa k₂ ca₂
  have F₂ := fk B F (k₂.mono κ.d1) hL x.lo
  refine w_cons (w_AssignAttr (w_bcall B F₂.keep (by k_is) (by boot_by_name) (by decide) (w_items (w_Attr (w_ld F₂ rfl (cg_goal B F₂.keep x₂.ca fun tg => w_items (w_ld F₂ rfl (w_items0 (w_min room.hand fun h₃ t₃ k₃ => ?_)))))))))
  have F₃ := fk0 F₂ k₃
  have x₃ := x₂.kept0 k₃
  refine w_ld F₃ rfl (cs_goal B F₃.keep x₃.ne.1 x₃.ca fun h₄ ca₄ k₄ => ?_)
  have x₄ := x₃.setCa k₄ ca₄
  have F₄ := fk B F₃ (k₄.mono κ.d1) hL x.lo
  have g₄ := g.resize hm
  refine w_cons (w_ExprAny (km mf_make_room B (w_ld F₄ rfl ⟨_, _, rfl, F₄.keep, x₄.ca, w_items (w_int fun t => w_items (w_bool (w_items0 ⟨F₄.keep, c_ca_make_room B F₄.keep room.deeper x₄ g₄ fun h₅ k₅ x₅ => ?_⟩)))⟩)))
  have F₅ := fk B F₄ k₅ hL x.lo
  have g₅ := g₄.room 0 false
  refine w_cons (w_ExprAny (km0 mf_cut_shadows B (w_ld F₅ rfl ⟨_, _, rfl, F₅.keep, x₅.ca, c_ca_cut B F₅.keep room.deeper x₅ g₅ fun h₆ k₆ x₆ => ?_⟩)))
  exact w_nil (q h₆ (Kept.fin (((((k₁.nil.trans (k₂.mono κ.d0)).trans k₃.nil).trans (k₄.mono κ.d0)).trans (k₅.mono inl)).trans (k₆.mono inl))) x₆)

theorem c_cn_plain {n : Cn} (B : Base w base) (kp : In0 base h) (room : Room A 1) (x : CnAt h κ n)
    (q : ∀ h' a (t : Nat → Tok), Kept [] h h' → PT h' a [.int n.rh (t 0), .int n.oh (t 1), .int n.ms (t 2), .int n.rs (t 3), .int n.os (t 4), .int n.po (t 5)] → R (.ok (.ret (.ref a))) h') : C prog w c A (.call (.ref 135) ⟨[.ref κ.cx], []⟩) R h := by
  refine cf [("self", .ref κ.cx)] B kp room (by k_is) (by k_is) (fun _ _ => BindsTo.of_eq rfl) (locs rfl) (fun h₁ F k₁ => ?_)
  have x₁ : CnAt h₁ κ n := x.kept k₁ (by simp)
  refine w_cons (w_AssignName (w_Tuple (w_items (w_Attr (w_ld F rfl (kg_rh B F.keep x₁ fun t0 => w_items (w_Attr (w_ld F rfl (kg_oh B F.keep x₁ fun t1 => w_items (w_Attr (w_ld F rfl (kg_ms B F.keep x₁ fun t2 => w_items0 ⟨by simp, fun h₂ p₂ k₂ => ?_⟩))))))))))))
  refine w_st (fk0 F k₂) fun h₃ F₃ k₃ => ?_
  have hLs : h.objs.size < h₁.objs.size := by obtain ⟨o, _, _, e, _⟩ := F.ns; exact Heap.lt_size e
  have p₃ := p₂.kept k₃ (by simp; exact Nat.ne_of_gt hLs)
  have x₃ : CnAt h₃ κ n := (x₁.kept k₂ (by simp)).kept k₃ (fun a ha m => by
    rw [List.mem_singleton.mp m] at ha
    obtain ⟨t, I⟩ := x
    rcases List.mem_cons.mp ha with e | ha
    · exact Nat.lt_irrefl _ (e ▸ I.lt.1)
    · exact Nat.lt_irrefl _ ((List.mem_singleton.mp ha) ▸ I.lt.2))
  refine w_cons (w_Return (w_BinOp (w_ld F₃ rfl (w_Tuple (w_items (w_Attr (w_ld F₃ rfl (kg_rs B F₃.keep x₃ fun t3 => w_items (w_Attr (w_ld F₃ rfl (kg_os B F₃.keep x₃ fun t4 => w_items (w_Attr (w_ld F₃ rfl (kg_po B F₃.keep x₃ fun t5 => w_items0 ⟨by simp, fun h₄ p₄ k₄ => ?_⟩))))))))))))))
  refine w_tadd (p₃.kept k₄ (by simp)) p₄ (by simp) (by simp) (by simp) fun h₅ k₅ p₅ => ?_
  refine q h₅ _ (fun i => match i with | 0 => t0 | 1 => t1 | 2 => t2 | 3 => t3 | 4 => t4 | _ => t5) (Kept.fin ((((k₁.nil.trans k₂.nil).trans k₃).trans k₄.nil).trans k₅.nil)) p₅
end
end Mine
end

section
open PySem PySem.W PyProof.Rows PySem.Calls
namespace Mine
theorem Inst.there {h : Heap} {x C d : Addr} {l : List (Str × Value)} (I : Inst h x C d l) : (∃ o, h.get? x = some o) ∧ ∃ o, h.get? d = some o := by
  obtain ⟨_, _, e, f, _⟩ := I; exact ⟨⟨_, e⟩, ⟨_, f⟩⟩
theorem DI.there {prog : Program} {w : World} {h : Heap} {d : Addr} {kvs : List (Int × Value)} (x : DI prog w h d kvs) : ∃ o, h.get? d = some o := let ⟨o, _, _, e, _⟩ := x; ⟨o, e⟩
theorem RowAt.there {prog : Program} {w : World} {h : Heap} {ρ : RA} {l : List It} (r : RowAt prog w h ρ l) : ∀ a ∈ ρ.all, ∃ o, h.get? a = some o := by
  obtain ⟨cl, _, _, nd, lo, ⟨t, I⟩, ⟨n, a⟩, b, c⟩ := r
  intro y hy
  simp only [RA.all, List.mem_cons, List.not_mem_nil, or_false] at hy
  rcases hy with rfl | rfl | rfl | rfl | rfl
  · exact I.there.1
  · exact I.there.2
  · exact ⟨_, a⟩
  · exact b.there
  · exact c.there
theorem CacheAt.there {prog : Program} {w : World} {h : Heap} {κ : CA} {σ : St} (x : CacheAt prog w h κ σ) : ∀ a ∈ κ.all, ∃ o, h.get? a = some o := by
  intro a ha
  obtain ⟨i, hi, ha⟩ := CA.cases ha
  match i, ha with
  | 0, ha =>
    obtain ⟨t, u, I⟩ := x.ca
    rcases List.mem_cons.mp ha with rfl | ha
    · exact I.there.1
    · rw [List.mem_singleton.mp ha]; exact I.there.2
  | 1, ha => exact x.a1.there a ha
  | 2, ha => exact x.a2.there a ha
  | 3, ha => exact x.a3.there a ha
  | 4, ha => exact x.a4.there a ha
  | 5, ha =>
    obtain ⟨t, I⟩ := x.cn
    rcases List.mem_cons.mp ha with rfl | ha
    · exact I.there.1
    · rw [List.mem_singleton.mp ha]; exact I.there.2
  | 6, ha => rw [List.mem_singleton.mp ha]; obtain ⟨_, _, _, d⟩ := x.held; exact d.there
  | _ + 7, ha => cases ha

theorem hasS_putOut {τ : St} {j k : Int} (hk : hasS τ k = true) (hj : hasS τ j = true) (ne : k ≠ j) : hasS (putOut τ j) k = true := by
  have dd : ∀ l : List It, hasK l k = true → hasK (dropK l j) k = true := fun l e => by rw [hasK_dropK, e]; simp [ne]
  cases e : hasK τ.rcn j with
  | true =>
    obtain ⟨i, hi⟩ := findK_has e
    rw [putOut_mem hi]
    simp only [hasS, Bool.or_eq_true] at hk ⊢
    rcases hk with hk | hk
    · exact .inl (dd _ hk)
    · exact .inr hk
  | false =>
    have e2 : hasK τ.oft j = true := by rw [hasS, e, Bool.false_or] at hj; exact hj
    obtain ⟨i, hi⟩ := findK_has e2
    rw [putOut_mem2 e hi]
    simp only [hasS, Bool.or_eq_true] at hk ⊢
    rcases hk with hk | hk
    · exact .inl hk
    · exact .inr (dd _ hk)
theorem putOut_held (τ : St) (j : Int) : (putOut τ j).held = τ.held := by unfold putOut; (repeat' split) <;> rfl
theorem fold_held (K : List Int) : ∀ τ : St, (K.foldl putOut τ).held = τ.held := by
  induction K with
  | nil => intro τ; rfl
  | cons a r ih => intro τ; rw [List.foldl_cons, ih, putOut_held]
theorem fold_good (K : List Int) : ∀ {τ : St}, Good τ → Good (K.foldl putOut τ) := by
  induction K with
  | nil => intro τ g; exact g
  | cons a r ih => intro τ g; exact ih (g.putOut a)
theorem fold_step (K : List Int) : K.Nodup → ∀ τ : St, (∀ k ∈ K, hasS τ k = true) → ∀ j k, K[j]? = some k → hasS ((K.take j).foldl putOut τ) k = true := by
  induction K with
  | nil => intro _ τ _ j k h; simp at h
  | cons a r ih =>
    intro nd τ hs j k h
    rw [List.nodup_cons] at nd
    cases j with
    | zero => simp at h; subst h; exact hs _ List.mem_cons_self
    | succ j =>
      rw [List.take_succ_cons, List.foldl_cons]
      refine ih nd.2 _ (fun k hk => hasS_putOut (hs k (List.mem_cons_of_mem _ hk)) (hs a List.mem_cons_self) fun e => nd.1 (e ▸ hk)) j k (by simpa using h)
theorem fold_oft (K : List Int) : K.Nodup → ∀ τ : St, (∀ k ∈ K, hasK τ.rcn k = true) → (K.foldl putOut τ).oft = τ.oft := by
  induction K with
  | nil => intro _ τ _; rfl
  | cons a r ih =>
    intro nd τ hs
    rw [List.nodup_cons] at nd
    have ha := hs a List.mem_cons_self
    obtain ⟨i, hi⟩ := findK_has ha
    have e := putOut_mem hi
    rw [List.foldl_cons, ih nd.2 _ (fun k hk => ?_), e]
    rw [e]; dsimp only
    rw [hasK_dropK, hs k (List.mem_cons_of_mem _ hk)]
    have : k ≠ a := fun q => nd.1 (q ▸ hk)
    simp [this]
theorem freeK_nd {l : List It} (nd : keysNd l) (held : List (Int × Int)) : (freeK l held).Nodup := List.Nodup.sublist (List.filter_sublist.map _) nd
theorem freeK_has {l : List It} {held : List (Int × Int)} {k : Int} (h : k ∈ freeK l held) : hasK l k = true := by
  obtain ⟨i, hi, rfl⟩ := List.mem_map.mp h
  exact hasK_iff.mpr ⟨i, (List.mem_filter.mp hi).1, rfl⟩
def ksUpTo (σ : St) : Nat → List Int
  | 0 => []
  | 1 => freeK σ.rcn σ.held
  | _ => freeK σ.rcn σ.held ++ freeK σ.oft σ.held
def freeP (held : List (Int × Int)) (v : Value) : Bool := match v with | .int k _ => !hin held k | _ => false
theorem paired_eq {vs ys : List Value} (h : Paired (fun v u => u = v) vs ys) : ys = vs := by
  induction h with
  | nil => rfl
  | cons e _ ih => rw [e, ih]
theorem freeP_filter (held : List (Int × Int)) : ∀ cl : List CI, (cl.map CI.keyV).filter (freeP held) = (cl.filter fun c => !hin held c.it.k).map CI.keyV := by
  intro cl
  rw [List.filter_map]; rfl

section
variable {prog : Program} {w : World} {c : Cx} {base h : Heap} {A : Around} {R : Result → Heap → Prop} {κ : CA} {σ : St}

theorem c_ca_clear (B : Base w base) (kp : In0 base h) (room : Room A 4) (x : CacheAt prog w h κ σ) (g : Good σ)
    (q : ∀ h' t, Kept κ.all h h' → CacheAt prog w h' κ (clearS σ).1 → R (.ok (.ret (.int (clearS σ).2 t))) h') : C prog w c A (.call (.ref 265) ⟨[.ref κ.x], []⟩) R h := by
  refine cfC [("self", .ref κ.x)] "self" (.ref κ.x) B kp room (by k_is) (by k_is) rfl (fun _ => rfl) rfl rfl rfl (fun h₁ F cell k₁ => ?_)
  have hL := not_mem_of_lt x.lt
  have hC : h.objs.size + 1 ∉ κ.all := fun m => Nat.lt_irrefl _ (Nat.lt_trans (x.lt _ m) (Nat.lt_succ_self _))
  have hCL : h.objs.size + 1 ≠ h.objs.size := Nat.succ_ne_self _
  have x₁ := x.kept0 k₁
  have bound : ∀ {h' : Heap}, CacheAt prog w h' κ σ → ∀ a ∈ κ.all, a < h'.objs.size ∧ a ≠ h.objs.size := fun x' a ha => ⟨x'.lt a ha, fun e => hL (e ▸ ha)⟩
  -- many = 0
  refine w_cons (w_AssignName (w_int fun t0 => w_st F fun h₂ F₂ k₂ => ?_))
  have x₂ := x₁.kept k₂ (notL hL)
  have cell₂ := cell_kept cell k₂ (by simp)
  -- for row in (self.recent, self.often)
  refine w_cons (w_ForM (L := h.objs.size) κ.all ["row", "key", "many"] B room.hand (by decide) (w_Tuple (w_items (w_Attr (w_cell cell₂ (cg_recent B F₂.keep x₂.ca (w_items (w_Attr (w_cell cell₂ (cg_often B F₂.keep x₂.ca (w_items0 ⟨by simp, fun h₃ p₃ k₃ => ?_⟩)))))))))))
  have F₃ := fk0 F₂ k₃
  have x₃ := x₂.kept0 k₃
  have cell₃ := cell_kept cell₂ k₃ (by simp)
  have hLs : h.objs.size < h₂.objs.size := by obtain ⟨o, _, _, e, _⟩ := F₂.ns; exact Heap.lt_size e
  refine ⟨_, [.ref κ.r1.x, .ref κ.r2.x], _, fun i m h' => CacheAt prog w h' κ ((ksUpTo σ i).foldl putOut σ) ∧ h'.IsCell (h.objs.size + 1) (some (.ref κ.x)) ∧ ∃ t, m "many" = some (.int (ksUpTo σ i).length t), rfl, .inr p₃, F₃, Nat.ne_of_gt hLs, fun m => Nat.lt_irrefl _ (x₂.lt _ m), bound x₃, ?_, ?_, ?_, ?_, ?_⟩
  · intro h' k'
    exact ⟨x₃.kept0 k', cell_kept cell₃ k' (by simp), t0, rfl⟩
  · rintro i m h' h'' T ⟨a, b, t, e⟩ k' hT
    refine ⟨a.kept k' fun y hy m => ?_, cell_kept b k' fun m => ?_, t, e⟩
    · rcases hT y m with rfl | lt
      · exact hL hy
      · exact Nat.lt_irrefl _ (Nat.lt_of_lt_of_le (x₃.lt y hy) lt)
    · rcases hT _ m with e | lt
      · exact hCL e
      · exact Nat.lt_irrefl _ (Nat.lt_of_lt_of_le (cell_lt cell₃) lt)
  · rintro i m h' v ⟨a, b, t, e⟩
    exact ⟨a, b, t, (put_ne (by decide)).trans e⟩
  · rintro i v h₄ m₄ hv ⟨x₄, cell₄, tn, hn⟩ F₄ e₄ hr k₄
    obtain ⟨hi, hvi⟩ : i < 2 ∧ v = .ref (κ.rr i).x := by
      match i, hv with
      | 0, hv => exact ⟨by decide, (Option.some.inj hv).symm⟩
      | 1, hv => exact ⟨by decide, (Option.some.inj hv).symm⟩
      | _ + 2, hv => simp at hv
    subst hvi
    generalize hτ : (ksUpTo σ i).foldl putOut σ = τ at x₄
    have g₄ : Good τ := hτ ▸ fold_good _ g
    have eheld : τ.held = σ.held := hτ ▸ fold_held _ σ
    have erow : τ.rr i = σ.rr i := by
      match i, hi with
      | 0, _ => rw [← hτ]; rfl
      | 1, _ => rw [← hτ]; exact fold_oft _ (freeK_nd g.n1 _) σ fun k hk => freeK_has hk
    have nd : keysNd (σ.rr i) := by
      match i, hi with
      | 0, _ => exact g.n1
      | 1, _ => exact g.n2
    have hasr : ∀ k, hasK (σ.rr i) k = true → hasS τ k = true := fun k hk => by
      rw [← erow] at hk
      match i, hi with
      | 0, _ => simp only [St.rr] at hk; simp [hasS, hk]
      | 1, _ => simp only [St.rr] at hk; simp [hasS, hk]
    have eks : ksUpTo σ (i + 1) = ksUpTo σ i ++ freeK (σ.rr i) σ.held := by
      match i, hi with
      | 0, _ => rfl
      | 1, _ => rfl
    have r₄ := x₄.row i
    rw [erow] at r₄
    obtain ⟨cl, h1, _, raw⟩ := r₄
    obtain ⟨t4, I4⟩ := raw.inst
    have hlen : cl.length ≤ 8 := by have := g.lr i; rw [← h1] at this; simpa using this
    have H₄ := x₄.held
    rw [eheld] at H₄
    -- for key in [one for one in row.keys if one not in self.held]
    refine w_cons (W.post (w_ForM (L := h.objs.size) κ.all ["key", "many"] B room.hand (by decide) (Q := fun f h' => f = .next ∧ ∃ m', Fr base h.objs.size h' m' ∧ (∀ y : Str, y ∉ (["row", "key", "many"] : List Str) → m' y = m₄ y) ∧ CacheAt prog w h' κ ((freeK (σ.rr i) σ.held).foldl putOut τ) ∧ h'.IsCell (h.objs.size + 1) (some (.ref κ.x)) ∧ (∃ t, m' "many" = some (.int ((ksUpTo σ i).length + (freeK (σ.rr i) σ.held).length : Nat) t)) ∧ Kept (h.objs.size :: κ.all) h₄ h') (w_LC [("self", h.objs.size + 1)] (freeP σ.held) (fun v u => u = v) room.hand rfl (by decide) rfl (by decide) rfl (w_Attr (w_ld F₄ hr (rg_keys B F₄.keep I4 ⟨_, cl.map CI.keyV, rfl, .inl raw.keys, by simp; omega, ?_, ?_, ?_⟩))))) ?_)
    · intro c' C v h₅ m₅ hC hv hN hm k₅
      obtain ⟨ci, hci, rfl⟩ := List.mem_map.mp hv
      have x₅ := x₄.kept0 k₅
      have cell₅ := cell_kept cell₄ k₅ (by simp)
      have kp₅ : In0 base h₅ := fun b o e => k₅.all b o (F₄.keep b o e)
      obtain ⟨lo, hc, e, d⟩ := H₄.kept k₅ (by simp)
      refine w_tests1 (w_tCmp (w_ns hN hm (w_Attr (w_cell cell₅ (cg_held B kp₅ x₅.ca (w_dnotin d lo (w_truthy ⟨?_, Kept.refl _ _⟩)))))))
      rw [held_any e]; rfl
    · intro c' C v h₅ m₅ hC hv _ hN hm k₅
      exact w_ns hN hm ⟨rfl, Kept.refl _ _⟩
    · intro D h₅ ys hD pD pr k₅
      have eys := paired_eq pr
      rw [freeP_filter] at eys
      have F₅ := fk0 F₄ k₅
      have x₅ := x₄.kept0 k₅
      have cell₅ := cell_kept cell₄ k₅ (by simp)
      have hDL : D ≠ h.objs.size := fun e => by obtain ⟨o, _, _, e', _⟩ := F₄.ns; rw [← e, hD] at e'; cases e'
      have hDn : ∀ a, (∃ o, h₄.get? a = some o) → D ≠ a := fun a ⟨o, e⟩ q => by rw [q, e] at hD; cases hD
      have hDk : D ∉ κ.all := fun m => by
        obtain ⟨o, e⟩ := x₄.there D m
        rw [hD] at e; cases e
      have eK : freeK (σ.rr i) σ.held = (cl.filter fun c => !hin σ.held c.it.k).map (·.it.k) := by
        unfold freeK; rw [← h1, List.filter_map, List.map_map]; rfl
      refine ⟨D, ys, m₄, fun j m h' => CacheAt prog w h' κ (((freeK (σ.rr i) σ.held).take j).foldl putOut τ) ∧ h'.IsCell (h.objs.size + 1) (some (.ref κ.x)) ∧ ∃ t, m "many" = some (.int ((ksUpTo σ i).length + j : Nat) t), rfl, .inl pD, F₅, hDL, hDk, fun a ha => ⟨x₅.lt a ha, fun e => hL (e ▸ ha)⟩, ?_, ?_, ?_, ?_, ?_⟩
      · intro h' k'
        exact ⟨x₅.kept0 k', cell_kept cell₅ k' (by simp), tn, hn⟩
      · rintro j m h' h'' T ⟨a, b, t, e⟩ k' hT
        refine ⟨a.kept k' fun y hy m => ?_, cell_kept b k' fun m => ?_, t, e⟩
        · rcases hT y m with rfl | lt
          · exact hL hy
          · exact Nat.lt_irrefl _ (Nat.lt_of_lt_of_le (x₅.lt y hy) lt)
        · rcases hT _ m with e | lt
          · exact hCL e
          · exact Nat.lt_irrefl _ (Nat.lt_of_lt_of_le (cell_lt cell₅) lt)
      · rintro j m h' v ⟨a, b, t, e⟩
        exact ⟨a, b, t, (put_ne (by decide)).trans e⟩
      · rintro j v h₆ m₆ hv ⟨x₆, cell₆, t₆, hn₆⟩ F₆ e₆ hkey k₆
        rw [eys, List.getElem?_map] at hv
        obtain ⟨ci, hci, rfl⟩ := Option.map_eq_some_iff.mp hv
        have hkj : (freeK (σ.rr i) σ.held)[j]? = some ci.it.k := by rw [eK, List.getElem?_map, hci]; rfl
        have hs := fold_step (freeK (σ.rr i) σ.held) (freeK_nd nd _) τ (fun k hk => hasr k (freeK_has hk)) j _ hkj
        have g₆ := fold_good ((freeK (σ.rr i) σ.held).take j) g₄
        refine w_cons (w_ExprAny (km mf_put_out B (w_cell cell₆ ⟨_, _, rfl, F₆.keep, x₆.ca, w_items (w_ld F₆ hkey (w_items0 ⟨F₆.keep, c_ca_put_out B F₆.keep room.deeper x₆ g₆ hs fun h₇ k₇ x₇ => ?_⟩))⟩)))
        have F₇ := fk B F₆ k₇ hL x.lo
        have cell₇ := cell_kept cell₆ k₇ hC
        refine w_cons (w_AssignName (w_BinOp (w_ld F₇ hn₆ (w_int fun t => w_add fun t' => w_st F₇ fun h₈ F₈ k₈ => ?_))))
        have x₈ := x₇.kept k₈ (notL hL)
        refine w_nil ⟨⟨_, ⟨?_, cell_kept cell₇ k₈ (by simpa using hCL), t', ?_⟩, F₈, fun y hy => (put_ne (by simp at hy; exact hy.2)).trans (e₆ y hy)⟩, (k₇.mono (by simp; exact fun a ha => .inr ha)).trans (k₈.mono (by simp))⟩
        · rw [List.take_add_one, hkj, List.foldl_append]; exact x₈
        · rw [put_eq]; congr 2
      · rintro h₆ m₆ ⟨x₆, cell₆, t₆, hn₆⟩ F₆ e₆ k₆
        have el : ys.length = (freeK (σ.rr i) σ.held).length := by rw [eys, eK]; simp
        rw [el] at x₆ hn₆
        rw [List.take_length] at x₆
        refine w_nil ⟨rfl, m₆, F₆, fun y hy => e₆ y (by simp at hy ⊢; exact hy.2), x₆, cell₆, ⟨t₆, hn₆⟩, ?_⟩
        refine Kept.drop (S := h.objs.size :: κ.all) (T := [h₅.objs.size]) ((k₅.nil).trans (k₆.mono ?_)) ?_
        · intro a ha; simp at ha ⊢; rcases ha with h | h | h <;> simp [h]
        · intro a ha; rw [List.mem_singleton.mp ha]
          cases e : h₄.get? h₅.objs.size with
          | none => rfl
          | some o => exact absurd (Heap.lt_size (k₅.all _ _ e)) (Nat.lt_irrefl _)
    · rintro f h₅ ⟨rfl, m₅, F₅, e₅, x₅, cell₅, ⟨t₅, hn₅⟩, k₅⟩
      refine w_nil ⟨⟨m₅, ⟨?_, cell₅, t₅, ?_⟩, F₅, fun y hy => (e₅ y hy).trans (e₄ y hy)⟩, k₅⟩
      · rw [eks, List.foldl_append, hτ]; exact x₅
      · rw [hn₅, eks, List.length_append]
  · rintro h₄ m₄ ⟨x₄, cell₄, t₄, hn₄⟩ F₄ e₄ k₄
    have k14 : Kept (h.objs.size :: κ.all) h₁ h₄ := by
      refine Kept.drop (S := h.objs.size :: κ.all) (T := [h₃.objs.size]) (((k₂.mono (by simp)).trans k₃.nil).trans (k₄.mono ?_)) ?_
      · intro a ha; simp at ha ⊢; rcases ha with h | h | h <;> simp [h]
      · intro a ha; rw [List.mem_singleton.mp ha]
        cases e : h₁.get? h₃.objs.size with
        | none => rfl
        | some o =>
          exfalso
          have nL : h₃.objs.size ≠ h.objs.size := by obtain ⟨o, _, _, e, _⟩ := F₃.ns; exact Nat.ne_of_gt (Heap.lt_size e)
          exact Nat.lt_irrefl _ (Heap.lt_size (k₃.all _ _ (k₂ _ _ e (by simpa using nL))))
    have g₄ := fold_good (ksUpTo σ 2) g
    refine w_nil (w_cons (w_ExprAny (km0 mf_cut_shadows B (w_cell cell₄ ⟨_, _, rfl, F₄.keep, x₄.ca, c_ca_cut B F₄.keep room.deeper x₄ g₄ fun h₅ k₅ x₅ => ?_⟩))))
    have F₅ := fk B F₄ k₅ hL x.lo
    refine w_cons (w_Return (w_ld F₅ hn₄ ?_))
    have := q h₅ t₄ (Kept.fin ((k₁.nil.trans (k14.mono (by simp; exact fun a ha => .inl ha))).trans (k₅.mono inl))) x₅
    exact this
end
end Mine
end

section
open PySem PySem.W PyProof.Rows PySem.Calls
namespace Mine
theorem Room.make {A : Around} {n m : Nat} (r : Room A n) (C : Addr) (vals : List Value) (h : m + 1 ≤ n := by decide) : Room (A.under (.builtin "type.__call__" ⟨.ref C :: vals, []⟩)) m := by
  obtain ⟨a, b, c⟩ := r
  exact ⟨by show A.depth + 1 + m < _; omega, by show A.units + 1 + 10 * m + 10 < _; omega, c⟩

section
variable {prog : Program} {w : World} {c : Cx} {base h : Heap} {A : Around} {R : Result → Heap → Prop} {E : Value → Heap → Prop} {env : Env}

/-- a new object of an own class -/
theorem c_make {C fI : Addr} {rest : List Value} (B : Base w base) (kp : In0 base h) (hm : makesIn (KF w.params) C = true)
    (hi : findIn (KF w.params) (.ref C) "__init__" = some (some (.ref fI))) (hf : typeIn (KF w.params) (.ref fI) = some (.type "function"))
    (y : ∀ h', Inst h' (h.objs.size + 1) C h.objs.size [] → Kept [] h h' →
      Mine.C prog w c (A.under (.builtin "type.__call__" ⟨.ref C :: rest, []⟩)) (.call (.ref fI) ⟨.ref (h.objs.size + 1) :: rest, []⟩) (fun r h'' => r = .ok (.ret .none) ∧ R (.ok (.ret (.ref (h.objs.size + 1)))) h'') h') :
    Mine.C prog w c A (.call (.ref C) ⟨rest, []⟩) R h := by
  refine ⟨fun n => make_core (makes_of (B.In kp) hm) (looks_findIn (B.In kp) hi) (fun self => bind_fn (B.In kp) self hf) (.inl rfl) ?_⟩
  refine codeAny_mono ((y ((h.push emptyDict).push (instObj C h.objs.size)) ⟨[], 0, ?_, ?_, Nat.le_refl _, fun nm => rfl⟩ ((Kept.push _ _).trans (Kept.push _ _))).out n) fun r s' z => ?_
  · have := Heap.get?_push_size (h.push emptyDict) (o := instObj C h.objs.size) rfl
    rwa [Heap.size_push] at this
  · exact Heap.get?_push_of_some _ (Heap.get?_push_size _ rfl)
  · obtain ⟨h'', n', rfl, rfl, z⟩ := z
    exact ⟨rfl, h'', n', rfl, z⟩

theorem w_fcall0 {x : Str} {xp pos : Pos} {f : Addr} {Q : Value → Heap → Prop} (B : Base w base) (kp : In0 base h) (hm : nsIn (KF w.params) mainGlobals x = some (some (.ref f))) (hf : keepIn (KF w.params) (.ref f) = true)
    (y : C prog w c A (.call (.ref f) ⟨[], []⟩) (Back Q E) h)
    (hk : env.scope.kind = .function := by rfl) (hx : env.kindOf x = some .globalImplicit := by rfl) (hg : env.globals = mainGlobals := by rfl) (hdb : (x == ("__debug__" : Str)) = false := by decide)
    (hc : eval (.Call (.Name x xp) [] [] pos) env = (do callWith pos (← eval (.Name x xp) env) [] (backTo pos (starEach [] env)) (backToKw pos (keywordEach [] env))) := by rfl) :
    W prog w c A (eval (.Call (.Name x xp) [] [] pos) env) Q E h :=
  ⟨fun n => Call_ ((w_glob (Q := fun v h' => v = .ref f ∧ h' = h) B kp hm ⟨rfl, rfl⟩ hk hx hg hdb).go fun v h' n' q => by
    obtain ⟨rfl, rfl⟩ := q
    exact callWith_K0 (K := KF w.params) (B.In kp) hf ((w_call y).out n')) hc⟩

theorem w_dict0 {pos : Pos} {Q : Value → Heap → Prop} (q : ∀ h', DI prog w h' h.objs.size [] → Kept [] h h' → Q (.ref h.objs.size) h') : W prog w c A (eval (.Dict [] [] pos) env) Q E h :=
  ⟨fun n => wpAny_Dict_empty (s := c.st h n) ⟨_, _, rfl, q _ (Heap.DictOf.new h) (Kept.push _ _)⟩⟩

theorem c_row_new (B : Base w base) (kp : In0 base h) (room : Room A 2) (q : ∀ h' ρ, Kept [] h h' → RowAt prog w h' ρ [] → (∀ a ∈ ρ.all, h.objs.size ≤ a) → R (.ok (.ret (.ref ρ.x))) h') : C prog w c A (.call (.ref 110) ⟨[], []⟩) R h := by
  refine c_make B kp (by k_is) (by k_is : findIn _ _ _ = some (some (.ref 60))) (by k_is) fun h₁ I₁ k₁ => ?_
  have kp₁ : In0 base h₁ := fun b o e => k₁.all b o (kp b o e)
  refine cf [("self", .ref (h.objs.size + 1))] B kp₁ (room.make 110 [] (m := 1)) (by k_is) (by k_is) (fun _ _ => BindsTo.of_eq rfl) (locs rfl) (fun h₂ F k₂ => ?_)
  have hdx : h.objs.size + 1 ≠ h.objs.size := Nat.succ_ne_self _
  have l1 := I₁.lt
  have I₂ := I₁.kept k₂ (by simp) (by simp)
  have hge : 350 ≤ h.objs.size := by rw [← B.size]; exact B.ge kp
  have L2 : h₁.objs.size < h₂.objs.size := by obtain ⟨o, _, _, e, _⟩ := F.ns; exact Heap.lt_size e
  -- what stands apart
  generalize hx : h.objs.size + 1 = x at *
  generalize hdd : h.objs.size = d at *
  generalize hLL : h₁.objs.size = L at *
  have hxL : x ≠ L := Nat.ne_of_lt l1.1
  have hdL : d ≠ L := Nat.ne_of_lt l1.2
  -- self.keys = []
  refine w_cons (w_AssignAttr (w_List (w_items0 ⟨by simp, fun h₃ p₃ k₃ => ?_⟩)))
  have F₃ := fk0 F k₃
  have L3 := p₃.lt
  refine w_ld F₃ rfl (w_sa B F₃.keep (I₂.kept k₃ (by simp) (by simp)) hdx (by k_is) (by k_is) (by k_is) (by k_is) (by simp) fun h₄ I₄ k₄ => ?_)
  generalize hka : h₂.objs.size = ka at *
  have hkd : ka ≠ d := Nat.ne_of_gt (Nat.lt_trans l1.2 L2)
  have p₄ := p₃.kept k₄ (by simpa using hkd)
  have F₄ := fk B F₃ k₄ (by simpa using Ne.symm hdL) (by simpa using hge)
  have L4 := p₄.lt
  -- self.values = {}
  refine w_cons (w_AssignAttr (w_dict0 fun h₅ p₅ k₅ => ?_))
  have F₅ := fk0 F₄ k₅
  refine w_ld F₅ rfl (w_sa B F₅.keep (I₄.kept k₅ (by simp) (by simp)) hdx (by k_is) (by k_is) (by k_is) (by k_is) (Nat.le_of_ble_eq_true rfl) fun h₆ I₆ k₆ => ?_)
  generalize hva : h₄.objs.size = va at *
  have hvd : va ≠ d := Nat.ne_of_gt (Nat.lt_trans (Nat.lt_trans l1.2 L2) L4)
  have p₆ := (p₄.kept k₅ (by simp)).kept k₆ (by simpa using hkd)
  have v₆ := p₅.kept k₆ (by simpa using hvd)
  have F₆ := fk B F₅ k₆ (by simpa using Ne.symm hdL) (by simpa using hge)
  have L6 := v₆.lt
  -- self.sizes = {}
  refine w_cons (w_AssignAttr (w_dict0 fun h₇ p₇ k₇ => ?_))
  have F₇ := fk0 F₆ k₇
  refine w_ld F₇ rfl (w_sa B F₇.keep (I₆.kept k₇ (by simp) (by simp)) hdx (by k_is) (by k_is) (by k_is) (by k_is) (Nat.le_of_ble_eq_true rfl) fun h₈ I₈ k₈ => ?_)
  generalize hsa : h₆.objs.size = sa at *
  have hsd : sa ≠ d := Nat.ne_of_gt (Nat.lt_trans (Nat.lt_trans (Nat.lt_trans l1.2 L2) L4) L6)
  have p₈ := (p₆.kept k₇ (by simp)).kept k₈ (by simpa using hkd)
  have v₈ := (v₆.kept k₇ (by simp)).kept k₈ (by simpa using hvd)
  have s₈ := p₇.kept k₈ (by simpa using hsd)
  have F₈ := fk B F₇ k₈ (by simpa using Ne.symm hdL) (by simpa using hge)
  -- self.total = 0
  refine w_cons (w_AssignAttr (w_int fun t => w_ld F₈ rfl (w_sa B F₈.keep I₈ hdx (by k_is) (by k_is) (by k_is) (by k_is) (Nat.le_of_ble_eq_true rfl) fun h₉ I₉ k₉ => ?_)))
  have p₉ := p₈.kept k₉ (by simpa using hkd)
  have v₉ := v₈.kept k₉ (by simpa using hvd)
  have s₉ := s₈.kept k₉ (by simpa using hsd)
  have kk : Kept [] h h₉ := by
    refine Kept.drop (S := []) (T := [d]) (((((((((k₁.trans k₂).nil.trans k₃.nil).trans k₄).trans k₅.nil).trans k₆).trans k₇.nil).trans k₈)).trans k₉) ?_
    intro a ha; rw [List.mem_singleton.mp ha, ← hdd]; exact fresh_none h
  have hord : d < x ∧ x < L ∧ L < ka ∧ ka < va ∧ va < sa := ⟨by rw [← hx]; exact Nat.lt_succ_self _, l1.1, L2, L4, L6⟩
  refine w_nil ⟨rfl, q h₉ ⟨x, d, ka, va, sa⟩ kk ⟨[], rfl, List.nodup_nil, ⟨?_, ?_, ⟨t, I₉⟩, p₉, v₉, s₉⟩⟩ ?_⟩
  · have nl : ∀ {a b : Nat}, a < b → a ≠ b := Nat.ne_of_lt
    have ng : ∀ {a b : Nat}, b < a → a ≠ b := Nat.ne_of_gt
    have o1 := Nat.lt_trans hord.1 hord.2.1
    have o2 := Nat.lt_trans hord.2.1 hord.2.2.1
    have o3 := Nat.lt_trans o2 hord.2.2.2.1
    have o4 := Nat.lt_trans o3 hord.2.2.2.2
    have o5 := Nat.lt_trans hord.2.2.2.1 hord.2.2.2.2
    simp only [RA.all, List.nodup_cons, List.mem_cons, List.not_mem_nil, or_false, not_or, not_false_eq_true, List.nodup_nil, and_true]
    exact ⟨⟨ng hord.1, nl o2, nl o3, nl o4⟩, ⟨Ne.symm hkd, Ne.symm hvd, Ne.symm hsd⟩, ⟨nl hord.2.2.2.1, nl o5⟩, nl hord.2.2.2.2⟩
  all_goals
    intro a ha
    have o1 := Nat.lt_trans hord.1 hord.2.1
    have o2 := Nat.lt_trans o1 hord.2.2.1
    have o3 := Nat.lt_trans o2 hord.2.2.2.1
    have o4 := Nat.lt_trans o3 hord.2.2.2.2
    have hda : d ≤ a := by
      simp only [RA.all, List.mem_cons, List.not_mem_nil, or_false] at ha
      rcases ha with rfl | rfl | rfl | rfl | rfl
      · exact Nat.le_of_lt hord.1
      · exact Nat.le_refl _
      · exact Nat.le_of_lt o2
      · exact Nat.le_of_lt o3
      · exact Nat.le_of_lt o4
    first | exact hda | exact Nat.le_trans hge hda

theorem c_cn_new (B : Base w base) (kp : In0 base h) (room : Room A 2) (q : ∀ h' cx cd (t : Nat → Tok), Kept [] h h' → Inst h' cx 138 cd (cnAttrs ⟨0, 0, 0, 0, 0, 0⟩ t) → h.objs.size ≤ cx → h.objs.size ≤ cd → cx ≠ cd → R (.ok (.ret (.ref cx))) h') : C prog w c A (.call (.ref 138) ⟨[], []⟩) R h := by
  refine c_make B kp (by k_is) (by k_is : findIn _ _ _ = some (some (.ref 128))) (by k_is) fun h₁ I₁ k₁ => ?_
  have kp₁ : In0 base h₁ := fun b o e => k₁.all b o (kp b o e)
  refine cf [("self", .ref (h.objs.size + 1))] B kp₁ (room.make 138 [] (m := 1)) (by k_is) (by k_is) (fun _ _ => BindsTo.of_eq rfl) (locs rfl) (fun h₂ F k₂ => ?_)
  have hdx : h.objs.size + 1 ≠ h.objs.size := Nat.succ_ne_self _
  have l1 := I₁.lt
  have I₂ := I₁.kept k₂ (by simp) (by simp)
  have hge : 350 ≤ h.objs.size := by rw [← B.size]; exact B.ge kp
  have hdL : h₁.objs.size ∉ [h.objs.size] := by simp; exact Nat.ne_of_gt l1.2
  have hlo : ∀ a ∈ [h.objs.size], 350 ≤ a := by simpa using hge
  refine w_cons (w_AssignAttr (w_int fun t0 => w_ld F rfl (w_sa B F.keep I₂ hdx (by k_is) (by k_is) (by k_is) (by k_is) (by simp) fun h₃ I₃ k₃ => ?_)))
  have F₃ := fk B F k₃ hdL hlo
  refine w_cons (w_AssignAttr (w_int fun t1 => w_ld F₃ rfl (w_sa B F₃.keep I₃ hdx (by k_is) (by k_is) (by k_is) (by k_is) (Nat.le_of_ble_eq_true rfl) fun h₄ I₄ k₄ => ?_)))
  have F₄ := fk B F₃ k₄ hdL hlo
  refine w_cons (w_AssignAttr (w_int fun t2 => w_ld F₄ rfl (w_sa B F₄.keep I₄ hdx (by k_is) (by k_is) (by k_is) (by k_is) (Nat.le_of_ble_eq_true rfl) fun h₅ I₅ k₅ => ?_)))
  have F₅ := fk B F₄ k₅ hdL hlo
  refine w_cons (w_AssignAttr (w_int fun t3 => w_ld F₅ rfl (w_sa B F₅.keep I₅ hdx (by k_is) (by k_is) (by k_is) (by k_is) (Nat.le_of_ble_eq_true rfl) fun h₆ I₆ k₆ => ?_)))
  have F₆ := fk B F₅ k₆ hdL hlo
  refine w_cons (w_AssignAttr (w_int fun t4 => w_ld F₆ rfl (w_sa B F₆.keep I₆ hdx (by k_is) (by k_is) (by k_is) (by k_is) (Nat.le_of_ble_eq_true rfl) fun h₇ I₇ k₇ => ?_)))
  have F₇ := fk B F₆ k₇ hdL hlo
  refine w_cons (w_AssignAttr (w_int fun t5 => w_ld F₇ rfl (w_sa B F₇.keep I₇ hdx (by k_is) (by k_is) (by k_is) (by k_is) (Nat.le_of_ble_eq_true rfl) fun h₈ I₈ k₈ => ?_)))
  refine w_nil ⟨rfl, q h₈ _ _ (fun i => match i with | 0 => t0 | 1 => t1 | 2 => t2 | 3 => t3 | 4 => t4 | _ => t5) ?_ I₈ (Nat.le_succ _) (Nat.le_refl _) hdx⟩
  refine Kept.drop (S := []) (T := [h.objs.size]) (((((((k₁.trans k₂).nil.trans k₃).trans k₄).trans k₅).trans k₆).trans k₇).trans k₈) ?_
  intro a ha; rw [List.mem_singleton.mp ha]; exact fresh_none h
end
end Mine
end

section
open PySem PySem.W PyProof.Rows PySem.Calls
namespace Mine
theorem dj_of {κ : CA} (rk : Nat → Nat) (N : Nat → Nat) (mono : ∀ i j, i ≤ j → N i ≤ N j) (inj : ∀ i < 7, ∀ j < 7, i ≠ j → rk i ≠ rk j) (b : ∀ i < 7, ∀ a ∈ κ.part i, N (rk i) ≤ a ∧ a < N (rk i + 1)) :
    ∀ i j, i ≠ j → ∀ a ∈ κ.part i, a ∉ κ.part j := by
  intro i j hij a ha hb
  have h7 : ∀ i, a ∈ κ.part i → i < 7 := fun i h => by
    match i, h with
    | 0, _ => decide
    | 1, _ => decide
    | 2, _ => decide
    | 3, _ => decide
    | 4, _ => decide
    | 5, _ => decide
    | 6, _ => decide
    | _ + 7, h => cases h
  have bi := b i (h7 i ha) a ha
  have bj := b j (h7 j hb) a hb
  rcases Nat.lt_or_gt_of_ne (inj i (h7 i ha) j (h7 j hb) hij) with lt | lt
  · exact Nat.lt_irrefl _ (Nat.lt_of_lt_of_le bi.2 (Nat.le_trans (mono _ _ lt) bj.1))
  · exact Nat.lt_irrefl _ (Nat.lt_of_lt_of_le bj.2 (Nat.le_trans (mono _ _ lt) bi.1))
def rk : Nat → Nat | 5 => 6 | 6 => 5 | n => n
def Ns7 (n0 n1 n2 n3 n4 n5 n6 n7 : Nat) : Nat → Nat | 0 => n0 | 1 => n1 | 2 => n2 | 3 => n3 | 4 => n4 | 5 => n5 | 6 => n6 | _ => n7
theorem Ns7_mono {n0 n1 n2 n3 n4 n5 n6 n7 : Nat} (h0 : n0 ≤ n1) (h1 : n1 ≤ n2) (h2 : n2 ≤ n3) (h3 : n3 ≤ n4) (h4 : n4 ≤ n5) (h5 : n5 ≤ n6) (h6 : n6 ≤ n7) : ∀ i j, i ≤ j → Ns7 n0 n1 n2 n3 n4 n5 n6 n7 i ≤ Ns7 n0 n1 n2 n3 n4 n5 n6 n7 j := by
  have st : ∀ i, Ns7 n0 n1 n2 n3 n4 n5 n6 n7 i ≤ Ns7 n0 n1 n2 n3 n4 n5 n6 n7 (i + 1) := fun i => by
    match i with
    | 0 => exact h0
    | 1 => exact h1
    | 2 => exact h2
    | 3 => exact h3
    | 4 => exact h4
    | 5 => exact h5
    | 6 => exact h6
    | _ + 7 => exact Nat.le_refl _
  intro i j h
  induction h with
  | refl => exact Nat.le_refl _
  | step _ ih => exact Nat.le_trans ih (st _)

abbrev σ0 (m : Int) : St := ⟨m, 0, [], [], [], [], [], ⟨0, 0, 0, 0, 0, 0⟩⟩

section
variable {prog : Program} {w : World} {c : Cx} {base h : Heap} {A : Around} {R : Result → Heap → Prop} {E : Value → Heap → Prop} {env : Env}

theorem c_ca_new {m : Int} {mt : Tok} (B : Base w base) (kp : In0 base h) (room : Room A 4) (hm : 1 ≤ m)
    (q : ∀ h' κ, Kept [] h h' → CacheAt prog w h' κ (σ0 m) → (∀ a ∈ κ.all, h.objs.size ≤ a) → R (.ok (.ret (.ref κ.x))) h') : C prog w c A (.call (.ref 273) ⟨[.int m mt], []⟩) R h := by
  refine c_make B kp (by k_is) (by k_is : findIn _ _ _ = some (some (.ref 156))) (by k_is) fun h₁ I₁ k₁ => ?_
  have kp₁ : In0 base h₁ := fun b o e => k₁.all b o (kp b o e)
  refine cf [("self", .ref (h.objs.size + 1)), ("most", .int m mt)] B kp₁ (room.make 273 _ (m := 3)) (by k_is) (by k_is) (fun _ _ => BindsTo.of_eq rfl) (locs rfl) (fun h₂ F k₂ => ?_)
  have hdx : h.objs.size + 1 ≠ h.objs.size := Nat.succ_ne_self _
  have l1 := I₁.lt
  have I₂ := I₁.kept k₂ (by simp) (by simp)
  have hge : 350 ≤ h.objs.size := by rw [← B.size]; exact B.ge kp
  have hdL : h₁.objs.size ∉ [h.objs.size] := by simp; exact Nat.ne_of_gt l1.2
  have hlo : ∀ a ∈ [h.objs.size], 350 ≤ a := by simpa using hge
  have rd : ∀ {ρ : RA} {n : Nat}, (∀ a ∈ ρ.all, n ≤ a) → h.objs.size < n → ∀ a ∈ ρ.all, a ∉ [h.objs.size] := fun hr hn a ha m => Nat.lt_irrefl _ (Nat.lt_of_lt_of_le hn (by rw [← List.mem_singleton.mp m]; exact hr a ha))
  have room₂ : Room (A.under (.builtin "type.__call__" ⟨[.ref 273, .int m mt], []⟩)) 3 := room.make 273 _
  have rz : room.make 273 [.int m mt] (m := 3) = room₂ := rfl
  -- if most < 1
  refine w_cons (w_If (w_tCmp (w_ld F rfl (w_int fun t => w_lt (w_truthy ?_)))))
  have c1 : decide (m < 1) = false := by simp; omega
  first | refine if_no (by first | rfl | simp only [c1]) ?_ | simp only [c1, Bool.false_eq_true, if_false]
  refine w_nil (w_cons (w_AssignAttr (w_ld F rfl (w_ld F rfl (w_sa B F.keep I₂ hdx (by k_is) (by k_is) (by k_is) (by k_is) (by simp) fun h₃ I₃ k₃ => ?_)))))
  have F₃ := fk B F k₃ hdL hlo
  refine w_cons (w_AssignAttr (w_int fun t0 => w_ld F₃ rfl (w_sa B F₃.keep I₃ hdx (by k_is) (by k_is) (by k_is) (by k_is) (Nat.le_of_ble_eq_true rfl) fun h₄ I₄ k₄ => ?_)))
  have F₄ := fk B F₃ k₄ hdL hlo
  -- the four rows
  refine w_cons (w_AssignAttr (w_fcall0 B F₄.keep (by k_is) (by k_is) (c_row_new B F₄.keep room₂.deeper fun h₅ ρ1 k₅ r1 lo1 => ?_)))
  have F₅ := fk0 F₄ k₅
  refine w_ld F₅ rfl (w_sa B F₅.keep (I₄.kept k₅ (by simp) (by simp)) hdx (by k_is) (by k_is) (by k_is) (by k_is) (Nat.le_of_ble_eq_true rfl) fun h₆ I₆ k₆ => ?_)
  have n4 : h.objs.size < h₄.objs.size := I₄.lt.2
  have r1 := r1.kept k₆ (rd lo1 n4)
  have F₆ := fk B F₅ k₆ hdL hlo
  refine w_cons (w_AssignAttr (w_fcall0 B F₆.keep (by k_is) (by k_is) (c_row_new B F₆.keep room₂.deeper fun h₇ ρ2 k₇ r2 lo2 => ?_)))
  have F₇ := fk0 F₆ k₇
  have u1 := r1.lt
  have r1 := r1.kept0 k₇
  refine w_ld F₇ rfl (w_sa B F₇.keep (I₆.kept k₇ (by simp) (by simp)) hdx (by k_is) (by k_is) (by k_is) (by k_is) (Nat.le_of_ble_eq_true rfl) fun h₈ I₈ k₈ => ?_)
  have n6 : h.objs.size < h₆.objs.size := I₆.lt.2
  have r1 := r1.kept k₈ (rd lo1 n4)
  have r2 := r2.kept k₈ (rd lo2 n6)
  have F₈ := fk B F₇ k₈ hdL hlo
  refine w_cons (w_AssignAttr (w_fcall0 B F₈.keep (by k_is) (by k_is) (c_row_new B F₈.keep room₂.deeper fun h₉ ρ3 k₉ r3 lo3 => ?_)))
  have F₉ := fk0 F₈ k₉
  have u2 := r2.lt
  have r1 := r1.kept0 k₉
  have r2 := r2.kept0 k₉
  refine w_ld F₉ rfl (w_sa B F₉.keep (I₈.kept k₉ (by simp) (by simp)) hdx (by k_is) (by k_is) (by k_is) (by k_is) (Nat.le_of_ble_eq_true rfl) fun h₁₀ I₁₀ k₁₀ => ?_)
  have n8 : h.objs.size < h₈.objs.size := I₈.lt.2
  have r1 := r1.kept k₁₀ (rd lo1 n4)
  have r2 := r2.kept k₁₀ (rd lo2 n6)
  have r3 := r3.kept k₁₀ (rd lo3 n8)
  have F₁₀ := fk B F₉ k₁₀ hdL hlo
  refine w_cons (w_AssignAttr (w_fcall0 B F₁₀.keep (by k_is) (by k_is) (c_row_new B F₁₀.keep room₂.deeper fun h₁₁ ρ4 k₁₁ r4 lo4 => ?_)))
  have F₁₁ := fk0 F₁₀ k₁₁
  have u3 := r3.lt
  have r1 := r1.kept0 k₁₁
  have r2 := r2.kept0 k₁₁
  have r3 := r3.kept0 k₁₁
  refine w_ld F₁₁ rfl (w_sa B F₁₁.keep (I₁₀.kept k₁₁ (by simp) (by simp)) hdx (by k_is) (by k_is) (by k_is) (by k_is) (Nat.le_of_ble_eq_true rfl) fun h₁₂ I₁₂ k₁₂ => ?_)
  have n10 : h.objs.size < h₁₀.objs.size := I₁₀.lt.2
  have r1 := r1.kept k₁₂ (rd lo1 n4)
  have r2 := r2.kept k₁₂ (rd lo2 n6)
  have r3 := r3.kept k₁₂ (rd lo3 n8)
  have r4 := r4.kept k₁₂ (rd lo4 n10)
  have F₁₂ := fk B F₁₁ k₁₂ hdL hlo
  -- self.held = {}
  refine w_cons (w_AssignAttr (w_dict0 fun h₁₃ p₁₃ k₁₃ => ?_))
  have F₁₃ := fk0 F₁₂ k₁₃
  have u4 := r4.lt
  have n12 : h.objs.size < h₁₂.objs.size := I₁₂.lt.2
  refine w_ld F₁₃ rfl (w_sa B F₁₃.keep (I₁₂.kept k₁₃ (by simp) (by simp)) hdx (by k_is) (by k_is) (by k_is) (by k_is) (Nat.le_of_ble_eq_true rfl) fun h₁₄ I₁₄ k₁₄ => ?_)
  have p₁₄ := p₁₃.kept k₁₄ (by simp; exact Nat.ne_of_gt n12)
  have F₁₄ := fk B F₁₃ k₁₄ hdL hlo
  have r1 := (r1.kept0 k₁₃).kept k₁₄ (rd lo1 n4)
  have r2 := (r2.kept0 k₁₃).kept k₁₄ (rd lo2 n6)
  have r3 := (r3.kept0 k₁₃).kept k₁₄ (rd lo3 n8)
  have r4 := (r4.kept0 k₁₃).kept k₁₄ (rd lo4 n10)
  -- self.counts = Counts()
  refine w_cons (w_AssignAttr (w_fcall0 B F₁₄.keep (by k_is) (by k_is) (c_cn_new B F₁₄.keep room₂.deeper fun h₁₅ cx cd ct k₁₅ Ic lox lod hne => ?_)))
  have F₁₅ := fk0 F₁₄ k₁₅
  have u5 := p₁₄.lt
  have n14 : h.objs.size < h₁₄.objs.size := I₁₄.lt.2
  refine w_ld F₁₅ rfl (w_sa B F₁₅.keep (I₁₄.kept k₁₅ (by simp) (by simp)) hdx (by k_is) (by k_is) (by k_is) (by k_is) (Nat.le_of_ble_eq_true rfl) fun h₁₆ I₁₆ k₁₆ => ?_)
  have r1 := (r1.kept0 k₁₅).kept k₁₆ (rd lo1 n4)
  have r2 := (r2.kept0 k₁₅).kept k₁₆ (rd lo2 n6)
  have r3 := (r3.kept0 k₁₅).kept k₁₆ (rd lo3 n8)
  have r4 := (r4.kept0 k₁₅).kept k₁₆ (rd lo4 n10)
  have p₁₆ := (p₁₄.kept k₁₅ (by simp)).kept k₁₆ (by simp; exact Nat.ne_of_gt n12)
  have Ic₁₆ := Ic.kept k₁₆ (by simp; exact Nat.ne_of_gt (Nat.lt_of_lt_of_le n14 lox)) (by simp; exact Nat.ne_of_gt (Nat.lt_of_lt_of_le n14 lod))
  have lc := Ic₁₆.lt
  have kk : Kept [] h h₁₆ := by
    refine Kept.drop (S := []) (T := [h.objs.size]) ((((((((((((((((k₁.trans k₂).nil.trans k₃).trans k₄).trans k₅.nil).trans k₆).trans k₇.nil).trans k₈).trans k₉.nil).trans k₁₀).trans k₁₁.nil).trans k₁₂).trans k₁₃.nil).trans k₁₄).trans k₁₅.nil)).trans k₁₆) ?_
    intro a ha; rw [List.mem_singleton.mp ha]; exact fresh_none h
  let κ : CA := ⟨h.objs.size + 1, h.objs.size, ρ1, ρ2, ρ3, ρ4, cx, cd, h₁₂.objs.size⟩
  have cb : ∀ {ρ : RA} {a b : Nat}, (∀ y ∈ ρ.all, a ≤ y) → (∀ y ∈ ρ.all, y < b) → a ≤ b := fun {ρ a b} x y => Nat.le_of_lt (Nat.lt_of_le_of_lt (x _ ρ.m1) (y _ ρ.m1))
  have m45 := cb lo1 u1
  have m67 := cb lo2 u2
  have m89 := cb lo3 u3
  have m10 := cb lo4 u4
  have m12 : h₁₂.objs.size ≤ h₁₄.objs.size := Nat.le_of_lt u5
  have m14 : h₁₄.objs.size ≤ h₁₆.objs.size := Nat.le_of_lt (Nat.lt_of_le_of_lt lox lc.1)
  have b : ∀ i < 7, ∀ a ∈ κ.part i, Ns7 h.objs.size h₄.objs.size h₆.objs.size h₈.objs.size h₁₀.objs.size h₁₂.objs.size h₁₄.objs.size h₁₆.objs.size (rk i) ≤ a ∧ a < Ns7 h.objs.size h₄.objs.size h₆.objs.size h₈.objs.size h₁₀.objs.size h₁₂.objs.size h₁₄.objs.size h₁₆.objs.size (rk i + 1) := by
    intro i hi a ha
    match i, hi, ha with
    | 0, _, ha =>
      rcases List.mem_cons.mp ha with rfl | ha
      · exact ⟨Nat.le_succ _, I₄.lt.1⟩
      · rw [List.mem_singleton.mp ha]; exact ⟨Nat.le_refl _, I₄.lt.2⟩
    | 1, _, ha => exact ⟨lo1 a ha, u1 a ha⟩
    | 2, _, ha => exact ⟨lo2 a ha, u2 a ha⟩
    | 3, _, ha => exact ⟨lo3 a ha, u3 a ha⟩
    | 4, _, ha => exact ⟨lo4 a ha, u4 a ha⟩
    | 5, _, ha =>
      rcases List.mem_cons.mp ha with rfl | ha
      · exact ⟨lox, lc.1⟩
      · rw [List.mem_singleton.mp ha]; exact ⟨lod, lc.2⟩
    | 6, _, ha => rw [List.mem_singleton.mp ha]; exact ⟨Nat.le_refl _, u5⟩
  have mono := Ns7_mono (Nat.le_of_lt n4) m45 m67 m89 m10 m12 m14
  have lo : ∀ a ∈ κ.all, h.objs.size ≤ a := fun a ha => by
    obtain ⟨i, hi, ha⟩ := CA.cases ha
    exact Nat.le_trans (mono 0 _ (Nat.zero_le _)) (b i hi a ha).1
  refine w_nil ⟨rfl, q h₁₆ κ kk ⟨dj_of rk _ mono (by decide) b, ⟨hdx, hne⟩, fun a ha => Nat.le_trans hge (lo a ha), ⟨_, _, I₁₆⟩, r1, r2, r3, r4, ⟨ct, Ic₁₆⟩, Nat.le_trans hge (Nat.le_of_lt n12), [], rfl, p₁₆⟩ lo⟩
end
end Mine
end

section
open PySem PySem.W PyProof.Rows PySem.Calls
namespace Mine
/-- what plain() hands back: a tuple of the goal and four rows' pairs, all new -/
def PlainV (lo : Addr) (h : Heap) (V : Value) (g : Int) (p1 p2 p3 p4 : List (Int × Int)) : Prop :=
  ∃ a t v1 v2 v3 v4, V = .ref a ∧ lo ≤ a ∧ PT h a [.int g t, v1, v2, v3, v4] ∧ RowV lo h v1 p1 ∧ RowV lo h v2 p2 ∧ RowV lo h v3 p3 ∧ RowV lo h v4 p4

section
variable {prog : Program} {w : World} {c : Cx} {base h : Heap} {A : Around} {R : Result → Heap → Prop} {κ : CA} {σ : St}

theorem c_ca_plain (B : Base w base) (kp : In0 base h) (room : Room A 3) (x : CacheAt prog w h κ σ) (g : Good σ)
    (q : ∀ h' V, Kept [] h h' → PlainV h.objs.size h' V σ.goal (plainOf σ.rcn) (plainOf σ.oft) (plainOf σ.rg) (plainOf σ.og) → R (.ok (.ret V)) h') : C prog w c A (.call (.ref 270) ⟨[.ref κ.x], []⟩) R h := by
  refine cf [("self", .ref κ.x)] B kp room (by k_is) (by k_is) (fun _ _ => BindsTo.of_eq rfl) (locs rfl) (fun h₁ F k₁ => ?_)
  have x₁ := x.kept0 k₁
  have hge : h.objs.size ≤ h₁.objs.size := by obtain ⟨o, _, _, e, _⟩ := F.ns; exact Nat.le_of_lt (Heap.lt_size e)
  refine w_cons (w_Return (w_BinOp (w_Tuple (w_items (w_Attr (w_ld F rfl (cg_goal B F.keep x₁.ca fun tg => w_items0 ⟨by simp, fun h₂ p₂ k₂ => ?_⟩)))))))
  have F₂ := fk0 F k₂
  have x₂ := x₁.kept0 k₂
  refine w_tcall B F₂.keep (by k_is) (by boot_by_name) (by decide) (w_items ?_)
  refine w_LCG [] (fun _ => true) (fun v u lo h' => ∀ i, i < 4 → v = .ref (κ.rr i).x → RowV lo h' u (plainOf (σ.rr i))) room.hand ?_ rfl (by decide) rfl (by decide) rfl ?_
  · rintro v u lo h' h'' S q k hS i hi e
    exact (q i hi e).kept k hS
  refine km0 mf_rows B (w_ld F₂ rfl ⟨_, _, rfl, F₂.keep, x₂.ca, c_ca_rows B F₂.keep room.deeper x₂ fun h₃ a k₃ ha p₃ => ⟨a, rowsV κ, rfl, .inr p₃, by simp, ?_, ?_, ?_⟩⟩)
  · intro C v h₄ m₄ hC hv hN hm k₄
    exact w_tests0 ⟨rfl, Kept.refl _ _⟩
  · intro C v h₄ m₄ hC hv _ hN hm k₄
    obtain ⟨i, hi⟩ := List.getElem?_of_mem hv
    obtain ⟨hi4, rfl⟩ := rowsV_at hi
    have x₄ := (x₂.kept0 k₃).kept0 k₄
    have kp₄ : In0 base h₄ := fun b o e => k₄.all b o (k₃.all b o (F₂.keep b o e))
    refine r_plain B room.deeper (w_ns hN hm ⟨_, _, rfl, kp₄, x₄.row i, by have := g.lr i; omega, fun h₅ V lo k₅ hlo hV => ⟨fun j hj e => ?_, k₅⟩⟩)
    have : i = j := x₄.rinj hi4 hj (by injection e)
    subst this; exact hV.mono hlo
  · intro D h₄ ys hD pD pr k₄
    have e : (rowsV κ).filter (fun _ => true) = rowsV κ := rfl
    rw [e] at pr
    have F₄ := fk0 (fk0 F₂ k₃) k₄
    have hge3 : h.objs.size ≤ h₃.objs.size := Nat.le_of_lt (by obtain ⟨o, _, _, e, _⟩ := (fk0 F₂ k₃).ns; exact Heap.lt_size e)
    have hr : ∃ v1 v2 v3 v4, ys = [v1, v2, v3, v4] ∧ RowV h.objs.size h₄ v1 (plainOf σ.rcn) ∧ RowV h.objs.size h₄ v2 (plainOf σ.oft) ∧ RowV h.objs.size h₄ v3 (plainOf σ.rg) ∧ RowV h.objs.size h₄ v4 (plainOf σ.og) := by
      obtain ⟨v1, v2, v3, v4, e4, f1, f2, f3, f4⟩ := paired4 (show Paired _ [Value.ref (κ.rr 0).x, .ref (κ.rr 1).x, .ref (κ.rr 2).x, .ref (κ.rr 3).x] ys from pr)
      obtain ⟨l1, hl1, f1⟩ := f1
      obtain ⟨l2, hl2, f2⟩ := f2
      obtain ⟨l3, hl3, f3⟩ := f3
      obtain ⟨l4, hl4, f4⟩ := f4
      exact ⟨v1, v2, v3, v4, e4, (f1 0 (by decide) rfl).mono (Nat.le_trans hge3 hl1), (f2 1 (by decide) rfl).mono (Nat.le_trans hge3 hl2), (f3 2 (by decide) rfl).mono (Nat.le_trans hge3 hl3), (f4 3 (by decide) rfl).mono (Nat.le_trans hge3 hl4)⟩
    obtain ⟨v1, v2, v3, v4, rfl, r1, r2, r3, r4⟩ := hr
    refine w_items0 (w_tuple pD (by simp) fun h₅ b k₅ hb p₅ => ?_)
    have p₂' := ((p₂.kept k₃ (by simp)).kept k₄ (by simp)).kept k₅ (by simp)
    refine w_tadd p₂' p₅ (by simp) (by simp) (by simp) fun h₆ k₆ p₆ => ?_
    have r := fun {v l} (r : RowV h.objs.size h₄ v l) => (r.kept k₅ (by simp)).kept k₆ (by simp)
    refine q h₆ _ (((((k₁.trans k₂).trans k₃).trans k₄).trans k₅).trans k₆) ⟨_, _, v1, v2, v3, v4, rfl, ?_, p₆, r r1, r r2, r r3, r r4⟩
    obtain ⟨o, _, _, e, _⟩ := (fk0 F₄ k₅).ns; exact Nat.le_of_lt (Heap.lt_size e)
end
end Mine
end

section
open PySem PySem.W PyProof.Rows PySem.Calls PySem.SeqAt
namespace Mine
section
variable {prog : Program} {w : World} {c : Cx} {A : Around} {E : Value → Heap → Prop} {base h : Heap} {env : Env}

/-! comparisons of what hangs on the heap -/
theorem w_neH {a b : Value} {k : Bool} {Q : Value → Heap → Prop} (x : ∀ n, RcNeAt A (c.st h n) a b k) (q : Q (.bool k) h) : W prog w c A (compareOp .NotEq a b) Q E h :=
  ⟨fun n => (x n) prog w _ _ ⟨_, _, rfl, q⟩⟩
theorem w_inT {l : Addr} {vs : List Value} {x : Value} {Q : Value → Heap → Prop} (e : Value → Bool) (p : PT h l vs) (he : ∀ n, ∀ y, y ∈ vs → EqAt A.in1 (c.st h n) y x (e y)) (q : Q (.bool (vs.any e)) h) : W prog w c A (compareOp .In x (.ref l)) Q E h :=
  ⟨fun n => in_tupleAt (s := c.st h n) e p.isTuple (fun y hy => he n y (by simpa using hy)) ⟨_, _, rfl, by simpa using q⟩⟩
theorem eq_val {s : Shared} {x y : Value} {a b : Option Int} (hx : Val x a) (hy : Val y b) : EqAt A s x y (a == b) := by
  cases a with
  | none =>
    have : x = .none := hx
    subst this
    cases b with
    | none => have : y = .none := hy; subst this; exact EqAt.same _
    | some j => obtain ⟨t, rfl⟩ := hy; exact EqAt.none_int j t
  | some i =>
    obtain ⟨t, rfl⟩ := hx
    cases b with
    | none => have : y = .none := hy; subst this; exact EqAt.int_none i t
    | some j => obtain ⟨u, rfl⟩ := hy; exact EqAt.int_int i t j u

/-! list.remove, the items compared on the heap -/
/-- the goal of remove: the item at J goes, whatever the state's words for equality are -/
abbrev RmGoal (l : Addr) (n : Nat) (items : Array Value) (v : Value) (q : Value → Bool) (J : Nat) (A : Around) (R : Result → Shared → Prop) (s : Shared) : Prop :=
  s.heap.get? l = some { cls := .type "list", dict := none, data := .seq items n, slots := #[] } ∧ (∀ y ∈ items.toList, EqAt A.in1 s y v (q y)) ∧
    R (.ok (.ret .none)) { s with heap := s.heap.update l (Obj.mapSeq fun xs => xs.eraseIdxIfInBounds J) }
/-- pre is passed, mid is to pass, x goes -/
theorem rm_from {l : Addr} {n : Nat} {items : Array Value} {v x : Value} {q : Value → Bool} {post : List Value} {J : Nat} (hx : q x = true) (hz : items.size ≤ sizeLine) (mid : List Value) :
    ∀ pre : List Value, items.toList = pre ++ (mid ++ x :: post) → pre.length + mid.length = J → (∀ y ∈ mid, q y = false) →
      Meets (Builtin.«list.remove.loop» ⟨[.ref l, v, rawInt pre.length], []⟩) (RmGoal l n items v q J) := by
  have here : ∀ (pre : List Value) (y : Value) (r : List Value), items.toList = pre ++ y :: r → items[((pre.length : Nat) : Int).toNat]? = some y ∧ y ∈ items.toList := fun pre y r e =>
    ⟨by rw [Int.toNat_natCast, ← Array.getElem?_toList, e]; simp, by rw [e]; simp⟩
  induction mid with
  | nil =>
    intro pre e len _ prog w A R ⟨hp, g, d, tk, os⟩ ⟨hl, eq, z⟩
    obtain rfl : pre.length = J := len
    obtain ⟨at_, mem⟩ := here pre x post e
    have small : (items.eraseIdxIfInBounds pre.length).size ≤ sizeLine + 1 := Nat.le_trans (MeetsSeq.size_erased items _) (Nat.le_succ_of_le hz)
    have yes := eq x mem
    rw [hx] at yes
    wp_walk using AutoSeq1.wpAny_loadPart' hl
    rw [at_]
    refine wpAny_bind (yes prog w _ _ ?_)
    wp_walk using (wpAny_updateSeq hl rfl (hz := hz) (_hz' := small)), AutoSeq1.wpAny_loadPart' hl
    rwa [Int.toNat_natCast]
  | cons y mid next =>
    intro pre e len no prog w A R ⟨hp, g, d, tk, os⟩ ⟨hl, eq, z⟩
    obtain ⟨at_, mem⟩ := here pre y _ e
    have not := eq y mem
    rw [no y (.head _)] at not
    have turn := next (pre ++ [y]) (by rw [e, List.append_assoc]; rfl) (by rw [List.length_append, ← len]; simp; omega) (fun u m => no u (.tail _ m)) prog w A R ⟨hp, g, d, tk, os⟩ ⟨hl, eq, z⟩
    rw [show ((pre ++ [y]).length : Int) = (pre.length : Int) + 1 by simp] at turn
    wp_walk using AutoSeq1.wpAny_loadPart' hl
    rw [at_]
    refine wpAny_bind (not prog w _ _ ?_)
    wp_walk
    exact ⟨plainId_quiet MeetsSeq.plain_remove_loop _, codeAny_builtin MeetsSeq.entry_remove_loop ((Around.under_plainId MeetsSeq.plain_remove_loop _).symm ▸ turn)⟩
theorem rm_meets {l : Addr} {n : Nat} {v x : Value} {q : Value → Bool} {pre post : List Value} (hx : q x = true) (hp : ∀ y ∈ pre, q y = false) (hz : (pre ++ x :: post).toArray.size ≤ sizeLine) :
    Meets (Builtin.«list.remove» ⟨[.ref l, v], []⟩) (RmGoal l n (pre ++ x :: post).toArray v q pre.length) := by
  intro prog w A R ⟨hp', g, d, tk, os⟩ z
  have all := rm_from (l := l) (n := n) (v := v) hx hz pre [] rfl (Nat.zero_add _) hp prog w A R ⟨hp', g, d, tk, os⟩ z
  wp_walk using AutoSeq1.wpAny_loadPart' z.1
  exact ⟨plainId_quiet MeetsSeq.plain_remove_loop _, codeAny_builtin MeetsSeq.entry_remove_loop ((Around.under_plainId MeetsSeq.plain_remove_loop _).symm ▸ all)⟩

theorem w_removeH {o e : Expr} {apos pos : Pos} {Q : Value → Heap → Prop}
    (y : W prog w c A (eval o env) (fun ov h₁ => ∃ l, ov = .ref l ∧ (∃ us, PL h₁ l us) ∧
      W prog w c A (eval e env) (fun v h₂ => ∃ pre x post, PL h₂ l (pre ++ x :: post) ∧ (pre ++ x :: post).length ≤ 100000 ∧
        (∃ q : Value → Bool, (∀ n, ∀ y ∈ pre ++ x :: post, EqAt A.in1 (c.st h₂ n) y v (q y)) ∧ q x = true ∧ ∀ y ∈ pre, q y = false) ∧ ∀ h', PL h' l (pre ++ post) → Kept [l] h₂ h' → Q .none h') E h₁) E h)
    (hbase : attributeBase o "remove" env (eval o env) = eval o env := by rfl)
    (hst : backTo pos (starEach [e] env) = [(false, eval e env)] := by rfl)
    (hline : (apos.endLine == pos.line) = true := by rfl) : W prog w c A (eval (.Call (.Attribute o "remove" apos) [e] [] pos) env) Q E h := by
  refine ⟨fun n => bcall1 F.plainAttrs_list F.slot_list_remove F.type_list_remove (y.go fun ov h₁ n₁ q => ?_) hbase hst hline⟩
  obtain ⟨l, rfl, ⟨us, p⟩, q⟩ := q
  refine ⟨PL.type (s := c.st h₁ n₁) p, p.nodict, seqMethod1_meets F.slot_list_remove F.entry_list_remove (q.go fun v h₂ n₂ q => ?_)⟩
  obtain ⟨pre, x, post, p₂, hl, ⟨q', q1, q2, q3⟩, k⟩ := q
  obtain ⟨m, e₂⟩ := p₂
  have u := seq_upd (us := pre ++ post) (fun xs => xs.eraseIdxIfInBounds pre.length) e₂ (by
    have hj : pre.length < (pre ++ x :: post).toArray.size := by simp
    rw [Array.eraseIdxIfInBounds, dif_pos hj]
    simp [List.eraseIdx_append_of_length_le])
  exact ⟨⟨_, e₂, rfl⟩, F.args_list_remove_2 _ _, _, rm_meets q2 q3 (by rw [sizeLine_eq]; simp at hl ⊢; omega), e₂, fun y hy => q1 n₂ y hy, ⟨_, _, rfl, k _ u.1 u.2⟩⟩

/-! o[i] op= v -/
theorem w_AugSub {o i value : Expr} {tpos pos : Pos} {op : Operator} {Q : Flow → Heap → Prop}
    (y : W prog w c A (eval o env) (fun ov h₁ => W prog w c A (eval i env) (fun iv h₂ => W prog w c A (getItem ov iv) (fun old h₃ =>
          W prog w c A (eval value env) (fun v h₄ => W prog w c A (inplaceOp op old v) (fun new h₅ =>
            W prog w c A (setItem ov iv new) (fun _ => Q .next) E h₅) E h₄) E h₃) E h₂) E h₁) E h)
    (hi : ∀ ov iv new, augStore i ov iv new = (do holding [new, ov, iv] (setItem ov iv new); release [new, ov, iv] []; pure .next) := by intros; rfl) :
    W prog w c A (exec (.AugAssign (.Subscript o i tpos) op value pos) env) Q E h :=
  ⟨fun n => wpAny_AugAssign_SubscriptAny (y.go fun _ _ n' q => q.go fun _ _ n' q => q.go fun _ _ n' q => q.go fun _ _ n' q => q.go fun _ _ n' q => q.out n') hi⟩
theorem w_iadd {a b : Int} {t u : Tok} {Q : Value → Heap → Prop} (q : ∀ t, Q (.int (a + b) t) h) : W prog w c A (inplaceOp .Add (.int a t) (.int b u)) Q E h :=
  ⟨fun n => AutoIntOps.iadd_0 ⟨_, _, rfl, q _⟩⟩
theorem w_isub {a b : Int} {t u : Tok} {Q : Value → Heap → Prop} (q : ∀ t, Q (.int (a - b) t) h) : W prog w c A (inplaceOp .Sub (.int a t) (.int b u)) Q E h :=
  ⟨fun n => AutoIntOps.isub_0 ⟨_, _, rfl, q _⟩⟩
theorem w_lset {l : Addr} {vs : List Value} {k : Int} {t : Tok} {j : Nat} {v : Value} {Q : Unit → Heap → Prop} (p : h.IsList l vs.toArray) (hk : k = j) (hl : vs.length ≤ 100000) (hj : j < vs.length)
    (q : ∀ h', h'.IsList l (vs.set j v).toArray → Kept [l] h h' → Q () h') : W prog w c A (setItem (.ref l) (.int k t) v) Q E h := by
  subst hk
  exact ⟨fun n => wpAny_setItem_list (s := c.st h n) p (by omega) (by omega) (by simp; omega) fun h' a b => ⟨_, _, rfl, q h' (by simpa using a) (Kept.of_sb b)⟩⟩
theorem w_lgetI {l : Addr} {vs : List Value} {k : Int} {t : Tok} {j : Nat} {v : Value} {Q : Value → Heap → Prop} (p : h.IsList l vs.toArray) (hk : k = j) (hl : vs.length ≤ 100000) (hx : vs[j]? = some v) (q : Q v h) :
    W prog w c A (getItem (.ref l) (.int k t)) Q E h := by
  have hj : j < vs.length := (List.getElem?_eq_some_iff.mp hx).1
  subst hk
  exact ⟨fun n => wpAny_getItem_list (s := c.st h n) p (by omega) (by omega) (by simpa using hx) ⟨_, _, rfl, q⟩⟩
theorem w_diget {d : Addr} {kvs : List (Int × Value)} {k : Int} {t : Tok} {v : Value} {Q : Value → Heap → Prop} (hm : DI prog w h d kvs) (hv : valueAt kvs k = some v) (q : Q v h) :
    W prog w c A (getItem (.ref d) (.int k t)) Q E h := ⟨fun n => wpAny_getItem_of (s := c.st h n) (intKind_is prog w k t) hm.mapOf hv ⟨_, _, rfl, q⟩⟩

/-! dicts by texts -/
abbrev DS (prog : Program) (w : World) (h : Heap) (d : Addr) (kvs : List (Str × Value)) : Prop := h.DictOf (strKind prog w) d kvs
theorem DS.kept {S : List Addr} {h h' : Heap} {d : Addr} {kvs : List (Str × Value)} (x : DS prog w h d kvs) (k : Kept S h h') (ha : d ∉ S) : DS prog w h' d kvs := by
  obtain ⟨o, es, ep, e, r⟩ := x; exact ⟨o, es, ep, k _ _ e ha, r⟩
theorem DS.lt {h : Heap} {d : Addr} {kvs : List (Str × Value)} (x : DS prog w h d kvs) : d < h.objs.size := let ⟨_, _, _, e, _⟩ := x; Heap.lt_size e
theorem w_sget {value slice : Expr} {d : Addr} {kvs : List (Str × Value)} {k : Str} {t : Tok} {v : Value} {Q : Value → Heap → Prop} (hm : DS prog w h d kvs) (hv : valueAt kvs k = some v) (q : Q v h)
    (hs : subscripted slice false (.ref d) (.str k t) = operate [.ref d, .str k t] (getItem (.ref d) (.str k t)) := by with_unfolding_all rfl) :
    W prog w c A (subscriptTail value slice (.ref d) (.str k t)) Q E h :=
  ⟨fun n => tail_any (s := c.st h n) hm.typeIs slot_dict_getitem.lookup (wpAny_getItem_of (s := c.st h n) (strKind_is prog w k t) hm.mapOf hv ⟨_, _, rfl, q⟩) hs⟩
theorem w_sset {d : Addr} {kvs : List (Str × Value)} {k : Str} {t : Tok} {v : Value} {Q : Unit → Heap → Prop} (hm : DS prog w h d kvs) (hl : kvs.length ≤ 1000)
    (q : ∀ h', DS prog w h' d (stored kvs k v) → Kept [d] h h' → Q () h') : W prog w c A (setItem (.ref d) (.str k t) v) Q E h :=
  ⟨fun n => wpAny_setItem_pairs (s := c.st h n) (strKind_is prog w k t) hm (fun h' a b => ⟨_, _, rfl, q h' a (Kept.of_sb b)⟩) (by rw [sizeLine_eq]; omega)⟩
end
end Mine
end

section
open PySem PySem.W PyProof.Rows PySem.Calls PySem.SeqAt
namespace Mine
structure LR where
  s : Int
  k : Int
  z : Int
  v : Option Int
  deriving DecidableEq
structure LSt where
  most : Int
  goal : Int
  rows : List LR
  held : List (Int × Int)
  cn : Cn

def ltot (ss : List Int) (l : List LR) : Int := ((l.filter fun r => ss.any (· == r.s)).map (·.z)).sum
def lfind (l : List LR) (k : Int) : Option LR := l.find? fun r => r.k == k

def LRow (h : Heap) (b : Addr) (r : LR) : Prop := ∃ t1 t2 t3 V, PL h b [.int r.s t1, .int r.k t2, .int r.z t3, V] ∧ Val V r.v
theorem LRow.kept {S : List Addr} {h h' : Heap} {b : Addr} {r : LR} (x : LRow h b r) (k : Kept S h h') (hb : b ∉ S) : LRow h' b r := by
  obtain ⟨t1, t2, t3, V, p, hV⟩ := x; exact ⟨t1, t2, t3, V, p.kept k hb, hV⟩
/-- the list at rl holds the rows l, none of them at an address of X -/
def RowsAt (h : Heap) (rl : Addr) (X : List Addr) (l : List LR) : Prop :=
  ∃ zs : List (Addr × LR), zs.map (·.2) = l ∧ (zs.map (·.1)).Nodup ∧ PL h rl (zs.map fun z => .ref z.1) ∧ (∀ z ∈ zs, LRow h z.1 z.2) ∧ ∀ z ∈ zs, z.1 ∉ X
theorem RowsAt.kept {S X : List Addr} {h h' : Heap} {rl : Addr} {l : List LR} (x : RowsAt h rl X l) (k : Kept S h h') (hr : rl ∉ S) (hS : ∀ a ∈ S, a ∈ X) : RowsAt h' rl X l := by
  obtain ⟨zs, a, b, p, r, n⟩ := x
  exact ⟨zs, a, b, p.kept k hr, fun z hz => (r z hz).kept k fun m => n z hz (hS _ m), n⟩
theorem RowsAt.kept0 {X : List Addr} {h h' : Heap} {rl : Addr} {l : List LR} (x : RowsAt h rl X l) (k : Kept [] h h') : RowsAt h' rl X l := x.kept k (by simp) (by simp)
theorem RowsAt.add {X Y : List Addr} {h : Heap} {rl : Addr} {l : List LR} (x : RowsAt h rl X l) (s : ∀ a ∈ Y, a ∈ X ∨ h.objs.size ≤ a) : RowsAt h rl Y l := by
  obtain ⟨zs, a, b, p, r, n⟩ := x
  refine ⟨zs, a, b, p, r, fun z hz m => ?_⟩
  rcases s _ m with m | m
  · exact n z hz m
  · obtain ⟨_, _, _, _, q, _⟩ := r z hz
    exact Nat.lt_irrefl _ (Nat.lt_of_lt_of_le q.lt m)
theorem RowsAt.lt {X : List Addr} {h : Heap} {rl : Addr} {l : List LR} (x : RowsAt h rl X l) : rl < h.objs.size := by obtain ⟨_, _, _, p, _⟩ := x; exact p.lt

structure LA where
  rl : Addr
  sd : Addr
  ha : Addr
  ca : Addr
def LA.all (l : LA) : List Addr := [l.rl, l.sd, l.ha, l.ca]
theorem LA.m1 (l : LA) : l.rl ∈ l.all := .head _
theorem LA.m2 (l : LA) : l.sd ∈ l.all := .tail _ (.head _)
theorem LA.m3 (l : LA) : l.ha ∈ l.all := .tail _ (.tail _ (.head _))
theorem LA.m4 (l : LA) : l.ca ∈ l.all := .tail _ (.tail _ (.tail _ (.head _)))
abbrev stKv (l : LA) (m g : Int) (t u : Tok) : List (Str × Value) := [("most", .int m t), ("goal", .int g u), ("held", .ref l.ha), ("counts", .ref l.ca)]
abbrev cnV (n : Cn) (t : Nat → Tok) : List Value := [.int n.rh (t 0), .int n.oh (t 1), .int n.ms (t 2), .int n.rs (t 3), .int n.os (t 4), .int n.po (t 5)]
def StAt (prog : Program) (w : World) (h : Heap) (l : LA) (m g : Int) : Prop := ∃ t u, DS prog w h l.sd (stKv l m g t u)
def CvAt (h : Heap) (l : LA) (n : Cn) : Prop := ∃ t, h.IsList l.ca (cnV n t).toArray
structure LawAt (prog : Program) (w : World) (h : Heap) (l : LA) (X : List Addr) (τ : LSt) : Prop where
  nd : l.all.Nodup
  lo : ∀ a ∈ l.all, 350 ≤ a
  rows : RowsAt h l.rl (l.all ++ X) τ.rows
  st : StAt prog w h l τ.most τ.goal
  held : HeldAt prog w h l.ha τ.held
  cn : CvAt h l τ.cn

section
variable {prog : Program} {w : World} {h h' : Heap} {l : LA} {X Y : List Addr} {τ : LSt}
theorem CvAt.kept {S : List Addr} {n : Cn} (x : CvAt h l n) (k : Kept S h h') (hS : l.ca ∉ S) : CvAt h' l n := by
  obtain ⟨t, o, e, r⟩ := x; exact ⟨t, o, k _ _ e hS, r⟩
theorem StAt.kept {S : List Addr} {m g : Int} (x : StAt prog w h l m g) (k : Kept S h h') (hS : l.sd ∉ S) : StAt prog w h' l m g := by
  obtain ⟨t, u, d⟩ := x; exact ⟨t, u, d.kept k hS⟩
theorem LawAt.kept {S : List Addr} (x : LawAt prog w h l X τ) (k : Kept S h h') (hS : ∀ a ∈ S, a ∉ l.all ∧ a ∈ X) : LawAt prog w h' l X τ := by
  have n : ∀ {a}, a ∈ l.all → a ∉ S := fun ha m => (hS _ m).1 ha
  exact ⟨x.nd, x.lo, x.rows.kept k (n l.m1) fun a m => List.mem_append_right _ (hS a m).2, x.st.kept k (n l.m2), x.held.kept k (n l.m3), x.cn.kept k (n l.m4)⟩
theorem LawAt.kept0 (x : LawAt prog w h l X τ) (k : Kept [] h h') : LawAt prog w h' l X τ := x.kept k (by simp)
theorem LawAt.add (x : LawAt prog w h l X τ) (s : ∀ a ∈ Y, a ∈ X ∨ h.objs.size ≤ a) : LawAt prog w h l Y τ :=
  ⟨x.nd, x.lo, x.rows.add fun a m => by
    rcases List.mem_append.mp m with m | m
    · exact .inl (List.mem_append_left _ m)
    · rcases s a m with m | m
      · exact .inl (List.mem_append_right _ m)
      · exact .inr m, x.st, x.held, x.cn⟩
theorem LawAt.lt (x : LawAt prog w h l X τ) : ∀ a ∈ l.all, a < h.objs.size := by
  intro a ha
  simp only [LA.all, List.mem_cons, List.not_mem_nil, or_false] at ha
  rcases ha with rfl | rfl | rfl | rfl
  · exact x.rows.lt
  · obtain ⟨_, _, d⟩ := x.st; exact d.lt
  · exact x.held.lt
  · obtain ⟨_, o, e, _⟩ := x.cn; exact Heap.lt_size e
theorem LawAt.nds (x : LawAt prog w h l X τ) : (l.rl ≠ l.sd ∧ l.rl ≠ l.ha ∧ l.rl ≠ l.ca) ∧ (l.sd ≠ l.ha ∧ l.sd ≠ l.ca) ∧ l.ha ≠ l.ca := by
  have := x.nd
  simp only [LA.all, List.nodup_cons, List.mem_cons, List.not_mem_nil, or_false, not_or, not_false_eq_true, List.nodup_nil, and_true] at this
  exact this
theorem LawAt.setRows {rs : List LR} (x : LawAt prog w h l X τ) (k : Kept [l.rl] h h') (r : RowsAt h' l.rl (l.all ++ X) rs) : LawAt prog w h' l X { τ with rows := rs } := by
  obtain ⟨⟨a1, a2, a3⟩, ⟨b1, b2⟩, b3⟩ := x.nds
  exact ⟨x.nd, x.lo, r, x.st.kept k (by simpa using Ne.symm a1), x.held.kept k (by simpa using Ne.symm a2), x.cn.kept k (by simpa using Ne.symm a3)⟩
theorem LawAt.setSt {m g : Int} (x : LawAt prog w h l X τ) (k : Kept [l.sd] h h') (r : StAt prog w h' l m g) : LawAt prog w h' l X { τ with most := m, goal := g } := by
  obtain ⟨⟨a1, a2, a3⟩, ⟨b1, b2⟩, b3⟩ := x.nds
  exact ⟨x.nd, x.lo, x.rows.kept k (by simpa using a1) (by simp; exact .inl l.m2), r, x.held.kept k (by simpa using Ne.symm b1), x.cn.kept k (by simpa using Ne.symm b2)⟩
theorem LawAt.setHeld {hs : List (Int × Int)} (x : LawAt prog w h l X τ) (k : Kept [l.ha] h h') (r : HeldAt prog w h' l.ha hs) : LawAt prog w h' l X { τ with held := hs } := by
  obtain ⟨⟨a1, a2, a3⟩, ⟨b1, b2⟩, b3⟩ := x.nds
  exact ⟨x.nd, x.lo, x.rows.kept k (by simpa using a2) (by simp; exact .inl l.m3), x.st.kept k (by simpa using b1), r, x.cn.kept k (by simpa using Ne.symm b3)⟩
theorem LawAt.setCn {n : Cn} (x : LawAt prog w h l X τ) (k : Kept [l.ca] h h') (r : CvAt h' l n) : LawAt prog w h' l X { τ with cn := n } := by
  obtain ⟨⟨a1, a2, a3⟩, ⟨b1, b2⟩, b3⟩ := x.nds
  exact ⟨x.nd, x.lo, x.rows.kept k (by simpa using a3) (by simp; exact .inl l.m4), x.st.kept k (by simpa using b2), x.held.kept k (by simpa using b3), r⟩
end

/-! rows by their addresses -/
def zf (zs : List (Addr × LR)) (v : Value) : Option LR := match v with | .ref b => (zs.find? fun z => z.1 == b).map (·.2) | _ => none
theorem zf_mem {zs : List (Addr × LR)} (nd : (zs.map (·.1)).Nodup) {z : Addr × LR} (hz : z ∈ zs) : zf zs (.ref z.1) = some z.2 := by
  unfold zf
  dsimp only
  induction zs with
  | nil => cases hz
  | cons a r ih =>
    simp only [List.map_cons, List.nodup_cons] at nd
    rw [List.find?_cons]
    rcases List.mem_cons.mp hz with rfl | hz
    · simp
    · have : (a.1 == z.1) = false := by
        simp only [beq_eq_false_iff_ne]; intro e; exact nd.1 (by rw [e]; exact List.mem_map_of_mem hz)
      rw [this]; exact ih nd.2 hz
def zp (zs : List (Addr × LR)) (P : LR → Bool) (v : Value) : Bool := (zf zs v).any P
theorem zp_filter {zs : List (Addr × LR)} (nd : (zs.map (·.1)).Nodup) (P : LR → Bool) : (zs.map fun z => Value.ref z.1).filter (zp zs P) = (zs.filter fun z => P z.2).map fun z => .ref z.1 := by
  rw [List.filter_map]
  congr 1
  apply List.filter_congr
  intro z hz
  simp only [Function.comp, zp]
  rw [zf_mem nd hz]; rfl
theorem zf_filter {zs : List (Addr × LR)} (P : LR → Bool) : ((zs.filter fun z => P z.2).map (·.2)) = (zs.map (·.2)).filter P := by
  rw [List.filter_map]; rfl

section
variable {prog : Program} {w : World} {c : Cx} {A : Around} {E : Value → Heap → Prop} {base h : Heap} {env : Env}

theorem paired_rows {zs : List (Addr × LR)} (nd : (zs.map (·.1)).Nodup) {F : Addr × LR → Value → Prop} : ∀ {us : List (Addr × LR)} {ys : List Value}, (∀ z ∈ us, z ∈ zs) → Paired (fun v u => ∃ z ∈ zs, v = Value.ref z.1 ∧ F z u) (us.map fun z => .ref z.1) ys → Paired F us ys
  | [], _, _, .nil => .nil
  | z :: us, _, h, .cons ⟨z', hz', e, f⟩ t => by
    refine .cons ?_ (paired_rows nd (fun y hy => h y (List.mem_cons_of_mem _ hy)) t)
    have e1 := zf_mem nd (h z List.mem_cons_self)
    have e2 := zf_mem nd hz'
    have ea : z.1 = z'.1 := by injection e
    rw [ea, e2] at e1
    have : z' = z := Prod.ext ea.symm (Option.some.inj e1)
    exact this ▸ f

/-- a comprehension over rows -/
theorem w_LCR {elt iter : Expr} {x : Str} {px : Pos} {ifs : List Expr} {scope : Scope} {pos : Pos} {Q : Value → Heap → Prop} (cl : List (Str × Addr)) (zs : List (Addr × LR)) (P : LR → Bool) (F : Addr × LR → Value → Prop) (hh : A.handled = none)
    (nd : (zs.map (·.1)).Nodup) (hl : zs.length ≤ 100000)
    (hclos : closureFor scope env = pure cl) (hcell : ∀ y ∈ scope.names, y.2 ≠ .cell) (hkind : scope.kind = .function)
    (hnames : ∀ y ∈ scope.names, y.2 = .local → scope.names.lookup y.1 = some .local) (hx : scope.names.lookup x = some .local)
    (y : W prog w c A (eval iter env) (fun xv h₁ => ∃ rl, xv = .ref rl ∧ PL h₁ rl (zs.map fun z => .ref z.1) ∧
      (∀ c' C z h₃ m₃, h₁.objs.size ≤ C → z ∈ zs → h₃.Ns C m₃ → m₃ x = some (.ref z.1) → Kept [] h₁ h₃ → W prog w c' A (testsOf ifs (compEnvC scope cl C env)) (fun ok h₄ => ok = P z.2 ∧ Kept [] h₃ h₄) NoE h₃) ∧
      (∀ c' C z h₃ m₃, h₁.objs.size ≤ C → z ∈ zs → P z.2 = true → h₃.Ns C m₃ → m₃ x = some (.ref z.1) → Kept [] h₁ h₃ → W prog w c' A (eval elt (compEnvC scope cl C env)) (fun u h₄ => F z u ∧ Kept [] h₃ h₄) NoE h₃) ∧
      (∀ D h' ys, h₁.get? D = none → PL h' D ys → Paired F (zs.filter fun z => P z.2) ys → Kept [] h₁ h' → Q (.ref D) h')) E h)
    (hs : ∀ x, foldedSetIterable iter env x = pure x := by intro _; rfl) :
    W prog w c A (eval (.ListComp elt [⟨.Name x px, iter, ifs, 0⟩] scope pos) env) Q E h := by
  refine w_LC cl (zp zs P) (fun v u => ∃ z ∈ zs, v = .ref z.1 ∧ F z u) hh hclos hcell hkind hnames hx (y.post fun xv h₁ q => ?_) hs
  obtain ⟨rl, rfl, p, qt, qe, q⟩ := q
  refine ⟨rl, _, rfl, .inl p, by simpa using hl, ?_, ?_, ?_⟩
  · intro c' C v h₃ m₃ hC hv hN hm k
    obtain ⟨z, hz, rfl⟩ := List.mem_map.mp hv
    refine (qt c' C z h₃ m₃ hC hz hN hm k).post fun ok h₄ ⟨e, k'⟩ => ⟨?_, k'⟩
    rw [e, zp, zf_mem nd hz]; rfl
  · intro c' C v h₃ m₃ hC hv hp hN hm k
    obtain ⟨z, hz, rfl⟩ := List.mem_map.mp hv
    refine (qe c' C z h₃ m₃ hC hz ?_ hN hm k).post fun ok h₄ ⟨e, k'⟩ => ⟨⟨z, hz, rfl, e⟩, k'⟩
    rw [zp, zf_mem nd hz] at hp; exact hp
  · intro D h' ys hD pD pr k
    rw [zp_filter nd] at pr
    exact q D h' ys hD pD (paired_rows nd (fun z hz => (List.mem_filter.mp hz).1) pr) k

/-! a row's places -/
theorem w_row0 {b : Addr} {r : LR} {v s : Expr} {t : Tok} {Q : Value → Heap → Prop} (x : LRow h b r) (q : ∀ t, Q (.int r.s t) h)
    (hs : subscripted s false (.ref b) (.int 0 t) = operate [.ref b, .int 0 t] (getItem (.ref b) (.int 0 t)) := by with_unfolding_all rfl) : W prog w c A (subscriptTail v s (.ref b) (.int 0 t)) Q E h := by
  obtain ⟨t1, t2, t3, V, p, hV⟩ := x
  exact w_litem (j := 0) p rfl (by simp) rfl (q _) hs
theorem w_row1 {b : Addr} {r : LR} {v s : Expr} {t : Tok} {Q : Value → Heap → Prop} (x : LRow h b r) (q : ∀ t, Q (.int r.k t) h)
    (hs : subscripted s false (.ref b) (.int 1 t) = operate [.ref b, .int 1 t] (getItem (.ref b) (.int 1 t)) := by with_unfolding_all rfl) : W prog w c A (subscriptTail v s (.ref b) (.int 1 t)) Q E h := by
  obtain ⟨t1, t2, t3, V, p, hV⟩ := x
  exact w_litem (j := 1) p rfl (by simp) rfl (q _) hs
theorem w_row2 {b : Addr} {r : LR} {v s : Expr} {t : Tok} {Q : Value → Heap → Prop} (x : LRow h b r) (q : ∀ t, Q (.int r.z t) h)
    (hs : subscripted s false (.ref b) (.int 2 t) = operate [.ref b, .int 2 t] (getItem (.ref b) (.int 2 t)) := by with_unfolding_all rfl) : W prog w c A (subscriptTail v s (.ref b) (.int 2 t)) Q E h := by
  obtain ⟨t1, t2, t3, V, p, hV⟩ := x
  exact w_litem (j := 2) p rfl (by simp) rfl (q _) hs
theorem w_row3 {b : Addr} {r : LR} {v s : Expr} {t : Tok} {Q : Value → Heap → Prop} (x : LRow h b r) (q : ∀ V, Val V r.v → Q V h)
    (hs : subscripted s false (.ref b) (.int 3 t) = operate [.ref b, .int 3 t] (getItem (.ref b) (.int 3 t)) := by with_unfolding_all rfl) : W prog w c A (subscriptTail v s (.ref b) (.int 3 t)) Q E h := by
  obtain ⟨t1, t2, t3, V, p, hV⟩ := x
  exact w_litem (j := 3) p rfl (by simp) rfl (q _ hV) hs
end

section
variable {prog : Program} {w : World} {c : Cx} {base h : Heap} {A : Around} {R : Result → Heap → Prop} {E : Value → Heap → Prop}

def IntsV (vs : List Value) (ss : List Int) : Prop := Paired (fun v i => ∃ t, v = Value.int i t) vs ss
theorem IntsV.int {vs : List Value} {ss : List Int} (x : IntsV vs ss) {y : Value} (hy : y ∈ vs) : ∃ j u, y = .int j u := by
  induction x with
  | nil => cases hy
  | cons f t ih =>
    rcases List.mem_cons.mp hy with rfl | hy
    · obtain ⟨u, rfl⟩ := f; exact ⟨_, _, rfl⟩
    · exact ih hy
def isI (i : Int) (v : Value) : Bool := match v with | .int j _ => j == i | _ => false
theorem IntsV.any {vs : List Value} {ss : List Int} (x : IntsV vs ss) (i : Int) : vs.any (isI i) = ss.any (· == i) := by
  induction x with
  | nil => rfl
  | cons f t ih => obtain ⟨u, rfl⟩ := f; simp only [List.any_cons, ih, isI]

def LSz (l : List LR) : Prop := (∀ r ∈ l, 0 ≤ r.z ∧ r.z ≤ 5) ∧ l.length ≤ 1000

theorem c_law_total {rl sa : Addr} {X : List Addr} {l : List LR} {vs : List Value} {ss : List Int} (B : Base w base) (kp : In0 base h) (room : Room A 1) (x : RowsAt h rl X l) (hs : PT h sa vs) (hv : IntsV vs ss) (hl : LSz l)
    (q : ∀ h' t, Kept [] h h' → R (.ok (.ret (.int (ltot ss l) t))) h') : C prog w c A (.call (.ref 289) ⟨[.ref rl, .ref sa], []⟩) R h := by
  refine cfC [("rows", .ref rl), ("sorts", .ref sa)] "sorts" (.ref sa) B kp room (by k_is) (by k_is) rfl (fun _ => rfl) rfl rfl rfl (fun h₁ F cell k₁ => ?_)
  obtain ⟨zs, e, nd, p, rows, _⟩ := x.kept0 k₁
  have hzl : zs.length = l.length := by rw [← e]; simp
  have hs₁ := hs.kept k₁ (by simp)
  refine w_cons (w_Return (w_bcall B F.keep (by k_is) (by boot_by_name) (by decide) (w_items ?_)))
  refine w_LCR [("sorts", h.objs.size + 1)] zs (fun r => ss.any (· == r.s)) (fun z u => ∃ t, u = .int z.2.z t) room.hand nd (by have := hl.2; omega) rfl (by decide) rfl (by decide) rfl (w_ld F rfl ⟨rl, rfl, p, ?_, ?_, ?_⟩)
  · intro c' C z h₃ m₃ hC hz hN hm k₃
    have r₃ := (rows z hz).kept k₃ (by simp)
    have cell₃ := cell_kept cell k₃ (by simp)
    have hs₃ := hs₁.kept k₃ (by simp)
    refine w_tests1 (w_tCmp (w_Sub (w_ns hN hm (w_int fun t => w_row0 r₃ fun t => w_cell cell₃ ?_))))
    refine w_inT (isI z.2.s) hs₃ (fun n y hy => ?_) (w_truthy ⟨hv.any _, Kept.refl _ _⟩)
    obtain ⟨j, u, rfl⟩ := hv.int hy
    exact EqAt.int_int j u z.2.s _
  · intro c' C z h₃ m₃ hC hz _ hN hm k₃
    have r₃ := (rows z hz).kept k₃ (by simp)
    exact w_Sub (w_ns hN hm (w_int fun t => w_row2 r₃ fun t => ⟨⟨t, rfl⟩, Kept.refl _ _⟩))
  · intro D h₂ ys hD pD pr k₂
    have hi : IntsAre ys (((zs.filter fun z => ss.any (· == z.2.s)).map (·.2)).map (·.z)) := by
      clear hD pD
      generalize (zs.filter fun z => ss.any (· == z.2.s)) = us at pr
      induction pr with
      | nil => exact .nil
      | cons f t ih => obtain ⟨u, rfl⟩ := f; exact .cons _ _ ih
    rw [zf_filter (fun r => ss.any (· == r.s)), e] at hi
    refine w_items0 (w_sum room.hand pD hi ?_ ?_ fun h₃ t k₃ => q h₃ t ((k₁.trans k₂).trans k₃))
    · intro z hz
      obtain ⟨r, hr, rfl⟩ := List.mem_map.mp hz
      have := hl.1 r (List.mem_filter.mp hr).1
      omega
    · have := List.length_filter_le (fun r : LR => ss.any (· == r.s)) l
      have := hl.2
      simp only [List.length_map]; omega
end
end Mine
end

section
open PySem PySem.W PyProof.Rows PySem.Calls PySem.SeqAt
namespace Mine
theorem Val_inj {V : Value} {a b : Option Int} (x : Val V a) (y : Val V b) : a = b := by
  cases a <;> cases b
  · rfl
  · have : V = .none := x; obtain ⟨t, e⟩ := y; rw [this] at e; cases e
  · have : V = .none := y; obtain ⟨t, e⟩ := x; rw [this] at e; cases e
  · obtain ⟨t, e⟩ := x; obtain ⟨u, f⟩ := y; rw [e] at f; injection f with f _; rw [f]
theorem LRow.inj {h : Heap} {b : Addr} {r r' : LR} (x : LRow h b r) (y : LRow h b r') : r = r' := by
  obtain ⟨t1, t2, t3, V, p, hV⟩ := x
  obtain ⟨u1, u2, u3, U, q, hU⟩ := y
  have := p.inj q
  simp only [List.cons.injEq, Value.int.injEq] at this
  obtain ⟨⟨a, _⟩, ⟨b, _⟩, ⟨c, _⟩, d, _⟩ := this
  subst d
  have e := Val_inj hV hU
  cases r; cases r'; simp_all
theorem row_eq {A : Around} {s : Shared} {a b : Addr} {r r' : LR} (x : LRow s.heap a r) (y : LRow s.heap b r') (hu : A.units < cLine) : EqAt A s (.ref a) (.ref b) (decide (r = r')) := by
  by_cases e : a = b
  · subst e
    have := x.inj y
    simp only [this, decide_true]
    exact EqAt.same _
  · obtain ⟨t1, t2, t3, V, p, hV⟩ := x
    obtain ⟨u1, u2, u3, U, q, hU⟩ := y
    have key := RcAt.lists (A := A) (s := s) (e := fun j => match j with | 0 => r.s == r'.s | 1 => r.k == r'.k | 2 => r.z == r'.z | _ => r.v == r'.v) p.isList q.isList (by simp) hu (fun j h1 h2 => by
      match j, h1 with
      | 0, _ => exact EqAt.int_int _ _ _ _
      | 1, _ => exact EqAt.int_int _ _ _ _
      | 2, _ => exact EqAt.int_int _ _ _ _
      | 3, _ => exact eq_val hV hU
      | n + 4, h => exact absurd h (by simp))
    have e2 : ((List.range ([Value.int r.s t1, .int r.k t2, .int r.z t3, V].toArray).size).all fun j => match j with | 0 => r.s == r'.s | 1 => r.k == r'.k | 2 => r.z == r'.z | _ => r.v == r'.v) = decide (r = r') := by
      show ((r.s == r'.s) && ((r.k == r'.k) && ((r.z == r'.z) && ((r.v == r'.v) && true)))) = _
      cases r; cases r'
      rw [Bool.eq_iff_iff]
      simp
    rw [e2] at key
    exact EqAt.of_refs e key

theorem erase_split {zs : List (Addr × LR)} {r : LR} (h : r ∈ zs.map (·.2)) : ∃ pre z post, zs = pre ++ z :: post ∧ z.2 = r ∧ (∀ y ∈ pre, y.2 ≠ r) ∧ (zs.map (·.2)).erase r = (pre ++ post).map (·.2) := by
  induction zs with
  | nil => cases h
  | cons a zs ih =>
    by_cases e : a.2 = r
    · exact ⟨[], a, zs, rfl, e, by simp, by simp [e]⟩
    · have : r ∈ zs.map (·.2) := by
        rcases List.mem_cons.mp h with h | h
        · exact absurd h.symm e
        · exact h
      obtain ⟨pre, z, post, h1, h2, h3, h4⟩ := ih this
      refine ⟨a :: pre, z, post, by rw [h1]; rfl, h2, ?_, ?_⟩
      · intro y hy
        rcases List.mem_cons.mp hy with rfl | hy
        · exact e
        · exact h3 y hy
      · rw [List.map_cons, List.erase_cons_tail (by simpa using e), h4]; rfl
theorem erase_sub (l : List LR) (r : LR) : (l.erase r).Sublist l := List.erase_sublist

section
variable {prog : Program} {w : World} {c : Cx} {A : Around} {E : Value → Heap → Prop} {base h : Heap} {env : Env}

theorem s_removeRow {o e : Expr} {apos pos : Pos} {Q : Value → Heap → Prop} (hu : A.units + 1 < cLine)
    (y : W prog w c A (eval o env) (fun ov h₁ => ∃ rl X l, ov = .ref rl ∧ RowsAt h₁ rl X l ∧ rl ∈ X ∧ l.length ≤ 1000 ∧
      W prog w c A (eval e env) (fun v h₂ => ∃ b r, v = .ref b ∧ RowsAt h₂ rl X l ∧ LRow h₂ b r ∧ r ∈ l ∧ ∀ h', Kept [rl] h₂ h' → RowsAt h' rl X (l.erase r) → Q .none h') E h₁) E h)
    (hbase : attributeBase o "remove" env (eval o env) = eval o env := by rfl)
    (hst : backTo pos (starEach [e] env) = [(false, eval e env)] := by rfl)
    (hline : (apos.endLine == pos.line) = true := by rfl) : W prog w c A (eval (.Call (.Attribute o "remove" apos) [e] [] pos) env) Q E h := by
  refine w_removeH (y.post fun ov h₁ q => ?_) hbase hst hline
  obtain ⟨rl, X, l, rfl, x, hX, hl, q⟩ := q
  obtain ⟨_, _, _, p, _⟩ := x
  refine ⟨rl, rfl, ⟨_, p⟩, q.post fun v h₂ q => ?_⟩
  obtain ⟨b, r, rfl, ⟨zs, e1, nd, p, rows, nX⟩, lr, hr, q⟩ := q
  obtain ⟨pre, z, post, hzs, hz, hpre, her⟩ := erase_split (zs := zs) (r := r) (e1 ▸ hr)
  have hlen : pre.length + (post.length + 1) ≤ 1000 := by
    have : zs.length = l.length := by rw [← e1]; simp
    rw [hzs] at this; simp at this; omega
  refine ⟨pre.map fun z => .ref z.1, .ref z.1, post.map fun z => .ref z.1, by rw [hzs] at p; simpa using p, by simp; omega, ⟨fun v => (zf zs v).any fun r' => decide (r' = r), ?_, ?_, ?_⟩, fun h' p' k' => ?_⟩
  · intro n y hy
    have hy : y ∈ zs.map fun z => Value.ref z.1 := by rw [hzs]; simpa using hy
    obtain ⟨z', hz', rfl⟩ := List.mem_map.mp hy
    show EqAt A.in1 (c.st h₂ n) (.ref z'.1) (.ref b) ((zf zs (.ref z'.1)).any fun r' => decide (r' = r))
    rw [zf_mem nd hz']
    exact row_eq (s := c.st h₂ n) (rows z' hz') lr hu
  · show ((zf zs (.ref z.1)).any fun r' => decide (r' = r)) = true
    rw [zf_mem nd (z := z) (by rw [hzs]; simp)]; simp [hz]
  · intro y hy
    obtain ⟨z', hz', rfl⟩ := List.mem_map.mp hy
    show ((zf zs (.ref z'.1)).any fun r' => decide (r' = r)) = false
    rw [zf_mem nd (z := z') (by rw [hzs]; simp [hz'])]; simpa using hpre z' hz'
  · refine q h' k' ⟨pre ++ post, by rw [← e1, her], ?_, by simpa using p', ?_, ?_⟩
    · rw [hzs] at nd
      simp only [List.map_append, List.map_cons] at nd ⊢
      exact nd.sublist (List.Sublist.append (List.Sublist.refl _) (List.sublist_cons_self _ _))
    · intro z' hz'
      have hm : z' ∈ zs := by rw [hzs]; rcases List.mem_append.mp hz' with m | m <;> simp [m]
      exact (rows z' hm).kept k' (by simp; intro e; exact nX z' hm (e ▸ hX))
    · intro z' hz'
      have hm : z' ∈ zs := by rw [hzs]; rcases List.mem_append.mp hz' with m | m <;> simp [m]
      exact nX z' hm

theorem s_appendRow {o e : Expr} {apos pos : Pos} {Q : Value → Heap → Prop}
    (y : W prog w c A (eval o env) (fun ov h₁ => ∃ rl X l, ov = .ref rl ∧ RowsAt h₁ rl X l ∧ rl ∈ X ∧ l.length ≤ 1000 ∧ (∀ a ∈ X, a < h₁.objs.size) ∧
      W prog w c A (eval e env) (fun v h₂ => ∃ b r, v = .ref b ∧ Kept [] h₁ h₂ ∧ h₁.objs.size ≤ b ∧ LRow h₂ b r ∧ ∀ h', Kept [rl] h₂ h' → RowsAt h' rl X (l ++ [r]) → Q .none h') E h₁) E h)
    (hbase : attributeBase o "append" env (eval o env) = eval o env := by rfl)
    (hst : backTo pos (starEach [e] env) = [(false, eval e env)] := by rfl)
    (hline : (apos.endLine == pos.line) = true := by rfl) : W prog w c A (eval (.Call (.Attribute o "append" apos) [e] [] pos) env) Q E h := by
  refine w_append (y.post fun ov h₁ q => ?_) hbase hst hline
  obtain ⟨rl, X, l, rfl, x, hX, hl, hXl, q⟩ := q
  have x0 := x
  obtain ⟨zs, e1, nd, p, rows, nX⟩ := x
  refine ⟨rl, rfl, ⟨_, p⟩, q.post fun v h₂ q => ?_⟩
  obtain ⟨b, r, rfl, k, hb, lr, q⟩ := q
  have hlen : zs.length = l.length := by rw [← e1]; simp
  refine ⟨_, p.kept k (by simp), by simp; omega, fun h' p' k' => q h' k' ⟨zs ++ [(b, r)], by simp [e1], ?_, by simpa using p', ?_, ?_⟩⟩
  · rw [List.map_append, List.nodup_append]
    refine ⟨nd, by simp, ?_⟩
    intro a ha a' ha'
    simp only [List.map_cons, List.map_nil, List.mem_singleton] at ha'
    rw [ha']
    rintro rfl
    obtain ⟨z, hz, rfl⟩ := List.mem_map.mp ha
    obtain ⟨_, _, _, _, pz, _⟩ := rows z hz
    exact Nat.lt_irrefl _ (Nat.lt_of_lt_of_le pz.lt hb)
  · intro z hz
    rcases List.mem_append.mp hz with m | m
    · exact ((rows z m).kept k (by simp)).kept k' (by simp; intro e; exact nX z m (e ▸ hX))
    · rw [List.mem_singleton.mp m]
      exact lr.kept k' (by simp; intro e; exact Nat.lt_irrefl _ (Nat.lt_of_lt_of_le (hXl _ hX) (e ▸ hb)))
  · intro z hz
    rcases List.mem_append.mp hz with m | m
    · exact nX z m
    · rw [List.mem_singleton.mp m]
      intro m'
      exact Nat.lt_irrefl _ (Nat.lt_of_lt_of_le (hXl _ m') hb)
/-- a new row -/
theorem s_newRow {e0 e1 e2 e3 : Expr} {pos : Pos} {Q : Value → Heap → Prop} {r : LR}
    (y : W prog w c A (eval e0 env) (fun v0 h0 => (∃ t, v0 = .int r.s t) ∧ h0 = h) E h) (y1 : W prog w c A (eval e1 env) (fun v0 h0 => (∃ t, v0 = .int r.k t) ∧ h0 = h) E h)
    (y2 : W prog w c A (eval e2 env) (fun v0 h0 => (∃ t, v0 = .int r.z t) ∧ h0 = h) E h) (y3 : W prog w c A (eval e3 env) (fun v0 h0 => Val v0 r.v ∧ h0 = h) E h)
    (q : ∀ h', Kept [] h h' → LRow h' h.objs.size r → Q (.ref h.objs.size) h')
    (hs0 : starEach [e0, e1, e2, e3] env = (false, eval e0 env) :: starEach [e1, e2, e3] env := by rfl) (hs1 : starEach [e1, e2, e3] env = (false, eval e1 env) :: starEach [e2, e3] env := by rfl)
    (hs2 : starEach [e2, e3] env = (false, eval e2 env) :: starEach [e3] env := by rfl) (hs3 : starEach [e3] env = (false, eval e3 env) :: starEach [] env := by rfl) :
    W prog w c A (eval (.List [e0, e1, e2, e3] pos) env) Q E h := by
  refine w_List (w_items (y.post fun v0 h0 ⟨⟨t0, e0⟩, eh⟩ => ?_) hs0)
  subst e0 eh
  refine w_items (y1.post fun v0 h0' ⟨⟨t1, e0⟩, eh⟩ => ?_) hs1
  subst e0 eh
  refine w_items (y2.post fun v0 h0'' ⟨⟨t2, e0⟩, eh⟩ => ?_) hs2
  subst e0 eh
  refine w_items (y3.post fun v0 h0''' ⟨hV, eh⟩ => ?_) hs3
  subst eh
  exact w_items0 ⟨by simp, fun h' p k => q h' k ⟨t0, t1, t2, v0, p, hV⟩⟩
end
end Mine
end

section
open PySem PySem.W PyProof.Rows PySem.Calls PySem.SeqAt
namespace Mine
def lawAway (τ : LSt) (r : LR) : LSt := { τ with rows := τ.rows.erase r ++ [⟨r.s + 2, r.k, r.z, none⟩], cn := { τ.cn with po := τ.cn.po + 1 } }
def ofS (i : Int) (l : List LR) : List LR := l.filter fun r => r.s == i
def freeS (τ : LSt) (i : Int) : List LR := τ.rows.filter fun r => r.s == i && !hin τ.held r.k
def goesL (τ : LSt) (s : Bool) : List LR :=
  if ltot [1] τ.rows > τ.goal ∨ (s = true ∧ ltot [1] τ.rows = τ.goal) then freeS τ 1 ++ freeS τ 2 else freeS τ 2 ++ freeS τ 1
def lout : Nat → LSt → Int → Bool → LSt
  | 0, τ, _, _ => τ
  | n + 1, τ, z, s => if ltot [1, 2] τ.rows + z > τ.most then (match goesL τ s with | [] => τ | r :: _ => lout n (lawAway τ r) z s) else τ
def lawOut (τ : LSt) (z : Int) (s : Bool) : LSt := lout (τ.rows.length + 1) τ z s
/-- one of the two loops of _law_cut -/
def lcut (i : Int) (ss : List Int) (lim : Int) : Nat → List LR → List LR
  | 0, l => l
  | n + 1, l => match ofS i l with
    | [] => l
    | r :: _ => if ltot ss l > lim then lcut i ss lim n (l.erase r) else l
def lawCut (τ : LSt) : LSt :=
  let l := lcut 3 [1, 3] τ.most τ.rows.length τ.rows
  { τ with rows := lcut 4 [1, 2, 3, 4] (2 * τ.most) l.length l }
def lawGet (τ : LSt) (k : Int) : LSt × Option Int :=
  match lfind τ.rows k with
  | none => ({ τ with cn := { τ.cn with ms := τ.cn.ms + 1 } }, none)
  | some r => if r.s > 2 then ({ τ with cn := { τ.cn with ms := τ.cn.ms + 1 } }, none) else
      ({ τ with rows := τ.rows.erase r ++ [⟨2, k, r.z, r.v⟩], cn := if r.s = 1 then { τ.cn with rh := τ.cn.rh + 1 } else { τ.cn with oh := τ.cn.oh + 1 } }, r.v)
def isHere (o : Option LR) : Bool := match o with | none => false | some r => decide (r.s < 3)
def lawDrop (τ : LSt) (k : Int) : LSt × Bool :=
  ({ τ with held := hwo τ.held k, rows := match lfind τ.rows k with | none => τ.rows | some r => τ.rows.erase r }, isHere (lfind τ.rows k))
def farOf (z own other : Int) : Int := z * (if own > 0 ∧ other > own then other / own else 1)
def lawPut (τ : LSt) (k : Int) (v : Option Int) (z : Int) : LSt × Bool :=
  if z > τ.most then ((lawDrop τ k).1, false) else
    match lfind τ.rows k with
    | none => (lawCut (let τ' := lawOut τ z false; { τ' with rows := τ'.rows ++ [⟨1, k, z, v⟩] }), true)
    | some r =>
      let t3 := ltot [3] τ.rows
      let t4 := ltot [4] τ.rows
      let far := if r.s = 4 then farOf z t4 t3 else farOf z t3 t4
      let τ1 : LSt := if r.s > 2 then
          { τ with cn := (if r.s = 3 then { τ.cn with rs := τ.cn.rs + 1 } else { τ.cn with os := τ.cn.os + 1 }), goal := if r.s = 3 then min τ.most (τ.goal + far) else max 0 (τ.goal - far) }
        else τ
      let τ2 : LSt := { τ1 with rows := τ1.rows.erase r }
      (lawCut (let τ' := lawOut τ2 z (decide (r.s = 4)); { τ' with rows := τ'.rows ++ [⟨2, k, z, v⟩] }), true)
def lawSettle (τ : LSt) : LSt := lawCut (lawOut τ 0 false)
def lawHold (τ : LSt) (k : Int) : LSt := { τ with held := hst τ.held k ((hat τ.held k).getD 0 + 1) }
def lawRelease (τ : LSt) (k : Int) : LSt :=
  let n := (hat τ.held k).getD 0 - 1
  let τ' : LSt := { τ with held := hst τ.held k n }
  if n = 0 then lawSettle { τ' with held := hwo τ'.held k } else τ'
def lawResize (τ : LSt) (m : Int) : LSt := lawSettle { τ with most := m, goal := min τ.goal m }
def lawClear (τ : LSt) : LSt × Nat :=
  let free := freeS τ 1 ++ freeS τ 2
  (lawCut (free.foldl lawAway τ), free.length)

/-! what stays so -/
structure LGood (τ : LSt) : Prop where
  nd : (τ.rows.map (·.k)).Nodup
  rg : ∀ r ∈ τ.rows, (0 ≤ r.k ∧ r.k < 8) ∧ (1 ≤ r.z ∧ r.z ≤ 5) ∧ 1 ≤ r.s ∧ r.s ≤ 4
  hn : (τ.held.map (·.1)).Nodup
  hr : ∀ p ∈ τ.held, 0 ≤ p.1 ∧ p.1 < 8
  mp : 1 ≤ τ.most ∧ τ.most ≤ 12
  gp : 0 ≤ τ.goal ∧ τ.goal ≤ 12
theorem LGood.len {τ : LSt} (g : LGood τ) : τ.rows.length ≤ 8 := by
  have := nodup_range_len g.nd (fun k hk => by obtain ⟨r, hr, rfl⟩ := List.mem_map.mp hk; exact (g.rg r hr).1)
  simpa using this
theorem LGood.hlen {τ : LSt} (g : LGood τ) : τ.held.length ≤ 8 := by
  have := nodup_range_len g.hn (fun k hk => by obtain ⟨r, hr, rfl⟩ := List.mem_map.mp hk; exact g.hr r hr)
  simpa using this
theorem LGood.sz {τ : LSt} (g : LGood τ) : LSz τ.rows := ⟨fun r hr => by have := (g.rg r hr).2.1; omega, by have := g.len; omega⟩
theorem LGood.setRows {τ : LSt} (g : LGood τ) {l : List LR} (nd : (l.map (·.k)).Nodup) (rg : ∀ r ∈ l, (0 ≤ r.k ∧ r.k < 8) ∧ (1 ≤ r.z ∧ r.z ≤ 5) ∧ 1 ≤ r.s ∧ r.s ≤ 4) : LGood { τ with rows := l } := ⟨nd, rg, g.hn, g.hr, g.mp, g.gp⟩
theorem LGood.subRows {τ : LSt} (g : LGood τ) {l : List LR} (s : l.Sublist τ.rows) : LGood { τ with rows := l } := g.setRows (g.nd.sublist (s.map _)) fun r hr => g.rg r (s.subset hr)
theorem LGood.setCn {τ : LSt} (g : LGood τ) (n : Cn) : LGood { τ with cn := n } := ⟨g.nd, g.rg, g.hn, g.hr, g.mp, g.gp⟩
theorem LGood.setHeld {τ : LSt} (g : LGood τ) {l : List (Int × Int)} (hn : (l.map (·.1)).Nodup) (hr : ∀ p ∈ l, 0 ≤ p.1 ∧ p.1 < 8) : LGood { τ with held := l } := ⟨g.nd, g.rg, hn, hr, g.mp, g.gp⟩
/-- taking a row out and setting another of its key behind -/
theorem nodup_swap {l : List LR} (nd : (l.map (·.k)).Nodup) {r : LR} (hr : r ∈ l) {r' : LR} (hk : r'.k = r.k) : ((l.erase r ++ [r']).map (·.k)).Nodup := by
  rw [List.map_append, List.nodup_append]
  refine ⟨nd.sublist ((erase_sub l r).map _), by simp, ?_⟩
  intro a ha b hb
  simp only [List.map_cons, List.map_nil, List.mem_singleton] at hb
  rw [hb, hk]
  rintro rfl
  obtain ⟨x, hx, e⟩ := List.mem_map.mp ha
  have p : l.Perm (r :: l.erase r) := List.perm_cons_erase hr
  have : ((r :: l.erase r).map (·.k)).Nodup := (p.map _).nodup_iff.mp nd
  rw [List.map_cons, List.nodup_cons] at this
  exact this.1 (by rw [← e]; exact List.mem_map_of_mem hx)
theorem LGood.away {τ : LSt} (g : LGood τ) {r : LR} (hr : r ∈ τ.rows) (h2 : r.s ≤ 2) : LGood (lawAway τ r) := by
  refine ⟨nodup_swap g.nd hr rfl, ?_, g.hn, g.hr, g.mp, g.gp⟩
  intro x hx
  rcases List.mem_append.mp hx with hx | hx
  · exact g.rg x ((erase_sub _ _).subset hx)
  · rw [List.mem_singleton.mp hx]
    have := g.rg r hr
    exact ⟨this.1, this.2.1, by dsimp only; omega⟩
theorem free_mem {τ : LSt} {i : Int} {r : LR} (h : r ∈ freeS τ i) : r ∈ τ.rows ∧ r.s = i ∧ hin τ.held r.k = false := by
  obtain ⟨a, b⟩ := List.mem_filter.mp h
  simp at b; exact ⟨a, b.1, b.2⟩
theorem goes_mem {τ : LSt} {s : Bool} {r : LR} (h : r ∈ goesL τ s) : r ∈ τ.rows ∧ (r.s = 1 ∨ r.s = 2) := by
  unfold goesL at h
  split at h <;> (rcases List.mem_append.mp h with h | h <;> have := free_mem h <;> simp [this])
theorem LGood.lout : ∀ (n : Nat) {τ : LSt}, LGood τ → ∀ z s, LGood (lout n τ z s)
  | 0, τ, g, _, _ => g
  | n + 1, τ, g, z, s => by
    unfold Mine.lout
    split
    · split
      · exact g
      · rename_i r l e
        have := goes_mem (τ := τ) (s := s) (r := r) (by rw [e]; simp)
        exact LGood.lout n (g.away this.1 (by omega)) z s
    · exact g
theorem LGood.out {τ : LSt} (g : LGood τ) (z : Int) (s : Bool) : LGood (lawOut τ z s) := LGood.lout _ g z s
theorem lcut_sub (i : Int) (ss : List Int) (lim : Int) : ∀ n l, (lcut i ss lim n l).Sublist l
  | 0, l => List.Sublist.refl _
  | n + 1, l => by
    unfold lcut
    split
    · exact List.Sublist.refl _
    · split
      · exact (lcut_sub i ss lim n _).trans (erase_sub _ _)
      · exact List.Sublist.refl _
theorem LGood.cut {τ : LSt} (g : LGood τ) : LGood (lawCut τ) := g.subRows ((lcut_sub ..).trans (lcut_sub ..))
theorem lfind_mem {l : List LR} {k : Int} {r : LR} (h : lfind l k = some r) : r ∈ l ∧ r.k = k := ⟨List.mem_of_find?_eq_some h, by simpa using List.find?_some h⟩
theorem lfind_none {l : List LR} {k : Int} (h : lfind l k = none) : ∀ r ∈ l, r.k ≠ k := fun r hr => by
  have := List.find?_eq_none.mp h r hr; simpa using this
theorem lout_keys {k : Int} {z : Int} {s : Bool} : ∀ (n : Nat) {τ : LSt}, (∀ r ∈ τ.rows, r.k ≠ k) → ∀ r ∈ (lout n τ z s).rows, r.k ≠ k
  | 0, τ, h => h
  | n + 1, τ, h => by
    unfold lout
    split
    · split
      · exact h
      · rename_i r l e
        have := goes_mem (τ := τ) (s := s) (r := r) (by rw [e]; simp)
        refine lout_keys n ?_
        intro x hx
        rcases List.mem_append.mp hx with hx | hx
        · exact h x ((erase_sub _ _).subset hx)
        · rw [List.mem_singleton.mp hx]; exact h r this.1
    · exact h
theorem erase_keys {l : List LR} (nd : (l.map (·.k)).Nodup) {r : LR} (hr : r ∈ l) : ∀ x ∈ l.erase r, x.k ≠ r.k := fun x hx e => by
  have p : l.Perm (r :: l.erase r) := List.perm_cons_erase hr
  have : ((r :: l.erase r).map (·.k)).Nodup := (p.map _).nodup_iff.mp nd
  rw [List.map_cons, List.nodup_cons] at this
  exact this.1 (by rw [← e]; exact List.mem_map_of_mem hx)
theorem LGood.addRow {τ : LSt} (g : LGood τ) {r : LR} (h : ∀ x ∈ τ.rows, x.k ≠ r.k) (hr : (0 ≤ r.k ∧ r.k < 8) ∧ (1 ≤ r.z ∧ r.z ≤ 5) ∧ 1 ≤ r.s ∧ r.s ≤ 4) : LGood { τ with rows := τ.rows ++ [r] } := by
  refine g.setRows ?_ ?_
  · rw [List.map_append, List.nodup_append]
    refine ⟨g.nd, by simp, ?_⟩
    intro a ha b hb
    simp only [List.map_cons, List.map_nil, List.mem_singleton] at hb
    rw [hb]; rintro rfl
    obtain ⟨x, hx, e⟩ := List.mem_map.mp ha
    exact h x hx e
  · intro x hx
    rcases List.mem_append.mp hx with hx | hx
    · exact g.rg x hx
    · rw [List.mem_singleton.mp hx]; exact hr
end Mine
end

section
open PySem PySem.W PyProof.Rows PySem.Calls PySem.SeqAt
namespace Mine
theorem Room.u1 {A : Around} {n : Nat} (r : Room A n) : A.units + 1 < cLine := by have := r.units; omega

theorem paired_refs {us : List (Addr × LR)} {ys : List Value} (p : Paired (fun (z : Addr × LR) u => u = Value.ref z.1) us ys) : ys = us.map fun z => .ref z.1 := by
  induction p with
  | nil => rfl
  | cons e _ ih => rw [e, ih]; rfl
/-- lists of rows: their addresses -/
def RowsV (h : Heap) (X : List Addr) (bs : List Addr) (l : List LR) : Prop := Paired (fun b r => LRow h b r ∧ b ∉ X) bs l
theorem RowsV.kept {S X : List Addr} {h h' : Heap} {bs : List Addr} {l : List LR} (x : RowsV h X bs l) (k : Kept S h h') (hS : ∀ a ∈ S, a ∈ X) : RowsV h' X bs l :=
  Paired.mono (fun b r ⟨a, n⟩ => ⟨a.kept k fun m => n (hS _ m), n⟩) x
theorem RowsV.of {h : Heap} {X : List Addr} {zs : List (Addr × LR)} (rows : ∀ z ∈ zs, LRow h z.1 z.2) (nX : ∀ z ∈ zs, z.1 ∉ X) : RowsV h X (zs.map (·.1)) (zs.map (·.2)) := by
  induction zs with
  | nil => exact .nil
  | cons z zs ih => exact .cons ⟨rows z List.mem_cons_self, nX z List.mem_cons_self⟩ (ih (fun y hy => rows y (List.mem_cons_of_mem _ hy)) fun y hy => nX y (List.mem_cons_of_mem _ hy))
theorem RowsV.len {h : Heap} {X : List Addr} {bs : List Addr} {l : List LR} (x : RowsV h X bs l) : bs.length = l.length := Paired.length x

section
variable {prog : Program} {w : World} {c : Cx} {base h : Heap} {A : Around} {R : Result → Heap → Prop} {E : Value → Heap → Prop} {env : Env}

theorem w_neNil {D e : Addr} {vs : List Value} {Q : Value → Heap → Prop} (p : PL h D vs) (p' : PL h e []) (hu : A.units < cLine) (q : Q (.bool (!vs.isEmpty)) h) : W prog w c A (compareOp .NotEq (.ref D) (.ref e)) Q E h := by
  cases vs with
  | nil => exact w_neH (fun n => by simpa using RcNeAt.lists (s := c.st h n) (e := fun _ => true) p.isList p'.isList rfl hu (fun j h1 => absurd h1 (by simp))) q
  | cons v vs => exact w_neH (fun n => RcNeAt.lists_lengths (s := c.st h n) p.isList p'.isList (by simp) hu) q

/-- [row for row in rows if row[0] == S] -/
theorem s_sort {S : Int} {p1 px pi p2 p3 p4 p5 p6 pos : Pos} {k1 k2 : Nat} {scope : Scope} {Q : Value → Heap → Prop} {rl : Addr} {X : List Addr} {l : List LR} (hh : A.handled = none)
    (x : RowsAt h rl X l) (hl : l.length ≤ 1000)
    (hclos : closureFor scope env = pure []) (hcell : ∀ y ∈ scope.names, y.2 ≠ .cell) (hkind : scope.kind = .function)
    (hnames : ∀ y ∈ scope.names, y.2 = .local → scope.names.lookup y.1 = some .local) (hx : scope.names.lookup ("row" : Str) = some .local)
    (y : W prog w c A (eval (.Name "rows" pi) env) (fun xv h₁ => xv = .ref rl ∧ h₁ = h) E h)
    (q : ∀ D h' bs, h.get? D = none → PL h' D (bs.map .ref) → RowsV h' X bs (ofS S l) → Kept [] h h' → Q (.ref D) h')
    (kl : ∀ C, (compEnvC scope [] C env).locals = C := by intro _; rfl) (ks : ∀ C, (compEnvC scope [] C env).scope.kind = .function := by intro _; rfl)
    (kn : ∀ C, (compEnvC scope [] C env).kindOf ("row" : Str) = some .local := by intro _; rfl)
    (hs : ∀ x, foldedSetIterable (.Name "rows" pi) env x = pure x := by intro _; rfl)
    (hm : behindInMarks .Eq (.Constant (.int S) k2 p5) = false := by with_unfolding_all rfl)
    (hsub : ∀ o t, subscripted (.Constant (.int 0) k1 p3) false (.ref o) (.int 0 t) = operate [.ref o, .int 0 t] (getItem (.ref o) (.int 0 t)) := by intro _ _; with_unfolding_all rfl) :
    W prog w c A (eval (.ListComp (.Name "row" p1) [⟨.Name "row" px, .Name "rows" pi, [.Compare (.Subscript (.Name "row" p2) (.Constant (.int 0) k1 p3) p4) [.Eq] [.Constant (.int S) k2 p5] p6], 0⟩] scope pos) env) Q E h := by
  obtain ⟨zs, e, nd, p, rows, nX⟩ := x
  have hzl : zs.length = l.length := by rw [← e]; simp
  refine w_LCR [] zs (fun r => r.s == S) (fun z u => u = .ref z.1) hh nd (by omega) hclos hcell hkind hnames hx (y.post fun xv h₁ ⟨e1, e2⟩ => ?_) hs
  subst e1 e2
  refine ⟨rl, rfl, p, ?_, ?_, ?_⟩
  · intro c' C z h₃ m₃ hC hz hN hm' k₃
    have r₃ := (rows z hz).kept k₃ (by simp)
    exact w_tests1 (w_tCmp (w_Sub (w_ns ((kl C).symm ▸ hN) hm' (w_int fun t => w_row0 r₃ (fun t => w_int fun u => w_eq (w_truthy ⟨rfl, Kept.refl _ _⟩)) (hsub _ _)) (ks C) (kn C))) hm)
  · intro c' C z h₃ m₃ hC hz _ hN hm' k₃
    exact w_ns ((kl C).symm ▸ hN) hm' ⟨rfl, Kept.refl _ _⟩ (ks C) (kn C)
  · intro D h' ys hD pD pr k
    have ey := paired_refs pr
    have rv : RowsV h₁ X ((zs.filter fun z => z.2.s == S).map (·.1)) (ofS S l) := by
      have := RowsV.of (h := h₁) (X := X) (zs := zs.filter fun z => z.2.s == S) (fun z hz => rows z (List.mem_filter.mp hz).1) (fun z hz => nX z (List.mem_filter.mp hz).1)
      rw [zf_filter (fun r => r.s == S), e] at this; exact this
    refine q D h' ((zs.filter fun z => z.2.s == S).map (·.1)) hD ?_ (rv.kept k (by simp)) k
    rw [List.map_map]; rw [ey] at pD; exact pD

/-- y = [.. for x in rows ..]: the stores swapped -/
theorem w_AssignLCR {elt iter : Expr} {x yn : Str} {px py : Pos} {ifs : List Expr} {scope : Scope} {pos spos : Pos} {Q : Flow → Heap → Prop} {L : Addr} (cl : List (Str × Addr)) (zs : List (Addr × LR)) (P : LR → Bool) (F : Addr × LR → Value → Prop) (B : Base w base) (hh : A.handled = none)
    (nd : (zs.map (·.1)).Nodup) (hl : zs.length ≤ 100000)
    (hclos : closureFor scope env = pure cl) (hcell : ∀ y ∈ scope.names, y.2 ≠ .cell) (hkind : scope.kind = .function)
    (hnames : ∀ y ∈ scope.names, y.2 = .local → scope.names.lookup y.1 = some .local) (hx : scope.names.lookup x = some .local)
    (y : W prog w c A (eval iter env) (fun xv h₁ => ∃ rl m, xv = .ref rl ∧ PL h₁ rl (zs.map fun z => .ref z.1) ∧ Fr base L h₁ m ∧
      (∀ c' C z h₃ m₃, h₁.objs.size ≤ C → z ∈ zs → h₃.Ns C m₃ → m₃ x = some (.ref z.1) → Kept [] h₁ h₃ → W prog w c' A (testsOf ifs (compEnvC scope cl C env)) (fun ok h₄ => ok = P z.2 ∧ Kept [] h₃ h₄) NoE h₃) ∧
      (∀ c' C z h₃ m₃, h₁.objs.size ≤ C → z ∈ zs → P z.2 = true → h₃.Ns C m₃ → m₃ x = some (.ref z.1) → Kept [] h₁ h₃ → W prog w c' A (eval elt (compEnvC scope cl C env)) (fun u h₄ => F z u ∧ Kept [] h₃ h₄) NoE h₃) ∧
      (∀ D h' ys, h₁.get? D = none → PL h' D ys → Paired F (zs.filter fun z => P z.2) ys → Fr base L h' (put yn (.ref D) m) → Kept [L] h₁ h' → Q .next h')) E h)
    (hsw : swapsWith (.ListComp elt [⟨.Name x px, iter, ifs, 0⟩] scope pos) (some (.Name yn py)) spos.line env = pure true := by rfl)
    (hL : env.locals = L := by rfl) (hy : env.kindOf yn = some .local := by rfl) (hp : (env.scope.kind == .class || (env.scope.kind == .module && env.locals != env.globals)) = false := by rfl)
    (hs : ∀ x, foldedSetIterable iter env x = pure x := by intro _; rfl) :
    W prog w c A (exec (.Assign [.Name yn py] (.ListComp elt [⟨.Name x px, iter, ifs, 0⟩] scope pos) spos) env) Q E h := by
  subst hL
  refine ⟨fun n₀ => wpAny_Assign_ListComp_free (zp zs P) (fun v u => ∃ z ∈ zs, v = .ref z.1 ∧ F z u) hsw hclos hcell hkind hnames hx hy hp (y.go fun xv h₁ n₁ q => ?_) hs⟩
  obtain ⟨rl, m, rfl, p, Fr₁, qt, qe, q⟩ := q
  refine (w_iterL (c := c) (A := A) (E := E) p (Q := fun it h₂ => it = .ref h₁.objs.size ∧ Kept [] h₁ h₂ ∧ h₂.IsListIter h₁.objs.size rl 0 ∧ h₁.objs.size < h₂.objs.size) fun h₂ a b d => ⟨rfl, a, b, d⟩).go fun it h₂ n₂ ⟨e, k₂, ii, lt⟩ => ?_
  subst e
  have hLs : env.locals < h₁.objs.size := by obtain ⟨o, _, _, e, _⟩ := Fr₁.ns; exact Heap.lt_size e
  have F₂ := fk0 Fr₁ k₂
  have Wk := Walks.list (prog := prog) (w := w) hh h₁.objs.size rl (Nat.ne_of_lt p.lt) (zs.map fun z => Value.ref z.1).toArray
  have nf : ∀ {h₃ : Heap}, (∀ b o, b ∉ [h₁.objs.size] → h₂.get? b = some o → h₃.get? b = some o) → Kept [] h₁ h₃ := fun k => Kept.drop (S := []) (k₂.nil.trans fun b o e n => k b o n e) (fun a ha => by rw [List.mem_singleton.mp ha]; exact fresh_none h₁)
  refine ⟨_, _, _, _, _, _, m, rfl, Wk, by rw [sizeLine_eq]; simp; omega, ⟨ii, (p.kept k₂ (by simp)).isList⟩, fun b hb => ?_, ?_, F₂.ns, ⟨?_, ?_⟩, ?_⟩
  · rcases List.mem_cons.mp hb with rfl | hb
    · exact lt
    · rw [List.mem_singleton.mp hb]; exact Nat.lt_trans p.lt lt
  · simp; exact Nat.ne_of_lt hLs
  · rintro C i v ⟨h₃, g, d, tk, os⟩ m₃ E' hC hp' hN hm hk _
    obtain ⟨z, hz, rfl⟩ := List.mem_map.mp (List.mem_of_getElem? (show (zs.map fun z => Value.ref z.1)[i]? = some v by simpa using hp'))
    refine of_noE (c := ⟨g, d, os⟩) (qt ⟨g, d, os⟩ C z h₃ m₃ (Nat.le_trans (Nat.le_of_lt lt) hC) hz hN hm (nf hk)) fun a h' n' q => ⟨?_, h', n', rfl, q.2.all⟩
    rw [q.1, zp, zf_mem nd hz]; rfl
  · rintro C i v ⟨h₃, g, d, tk, os⟩ m₃ E' hC hp' hpv hN hm hk _
    obtain ⟨z, hz, rfl⟩ := List.mem_map.mp (List.mem_of_getElem? (show (zs.map fun z => Value.ref z.1)[i]? = some v by simpa using hp'))
    refine of_noE (c := ⟨g, d, os⟩) (qe ⟨g, d, os⟩ C z h₃ m₃ (Nat.le_trans (Nat.le_of_lt lt) hC) hz ?_ hN hm (nf hk)) fun a h' n' q => ⟨⟨z, hz, rfl, q.1⟩, h', n', rfl, q.2.all⟩
    rw [zp, zf_mem nd hz] at hpv; exact hpv
  · intro D h' tk ys us hD _ hpl hlen hv hpair hN hk
    have e : us = zs.map fun z => Value.ref z.1 := by
      apply List.ext_getElem?
      intro j
      cases q : us[j]? with
      | some v => have := hv j v q; exact (by simpa using this : (zs.map fun z => Value.ref z.1)[j]? = some v).symm
      | none =>
        have := List.getElem?_eq_none_iff.mp q
        exact (List.getElem?_eq_none_iff.mpr (by simp at hlen ⊢; omega)).symm
    rw [e, zp_filter nd] at hpair
    have kk : Kept [env.locals] h₁ h' := Kept.drop (S := [env.locals]) (T := [h₁.objs.size]) (k₂.nil.trans fun b o e n => hk b o (by simp at n; exact n.1) (by simp at n; simpa using n.2) e) (fun a ha => by rw [List.mem_singleton.mp ha]; exact fresh_none h₁)
    have hD' : h₁.get? D = none := by
      cases q : h₁.get? D with
      | none => rfl
      | some o => rw [k₂.all _ _ q] at hD; cases hD
    obtain ⟨k, ek⟩ := hpl
    refine ⟨h', tk, rfl, q D h' ys.toList hD' ⟨k, by simpa using ek⟩ (paired_rows nd (fun z hz => (List.mem_filter.mp hz).1) hpair) ⟨hN, ?_, Fr₁.above⟩ kk⟩
    exact fun b o e => kk b o (Fr₁.keep b o e) (by
      simp; rintro rfl
      have := Heap.lt_size e
      exact Nat.lt_irrefl _ (Nat.lt_of_lt_of_le this Fr₁.above))

/-- what _law_row hands back -/
def FoundV (h : Heap) (X : List Addr) (V : Value) (o : Option LR) : Prop := match o with
  | none => V = .none
  | some r => ∃ b, V = .ref b ∧ LRow h b r ∧ b ∉ X
theorem FoundV.kept {S X : List Addr} {h h' : Heap} {V : Value} {o : Option LR} (x : FoundV h X V o) (k : Kept S h h') (hS : ∀ a ∈ S, a ∈ X) : FoundV h' X V o := by
  cases o with
  | none => exact x
  | some r => obtain ⟨b, e, r, n⟩ := x; exact ⟨b, e, r.kept k fun m => n (hS _ m), n⟩

theorem c_law_row {rl : Addr} {X : List Addr} {l : List LR} {k : Int} {kt : Tok} (B : Base w base) (kp : In0 base h) (room : Room A 1) (x : RowsAt h rl X l) (hl : l.length ≤ 1000)
    (q : ∀ h' V, Kept [] h h' → FoundV h' X V (lfind l k) → R (.ok (.ret V)) h') : C prog w c A (.call (.ref 294) ⟨[.ref rl, .int k kt], []⟩) R h := by
  refine cfC [("rows", .ref rl), ("key", .int k kt)] "key" (.int k kt) B kp room (by k_is) (by k_is) rfl (fun _ => rfl) rfl rfl rfl (fun h₁ F cell k₁ => ?_)
  have hLs : h.objs.size < h₁.objs.size := by obtain ⟨o, _, _, e, _⟩ := F.ns; exact Heap.lt_size e
  obtain ⟨zs, e, nd, p, rows, nX⟩ := x
  have hzL : ∀ z ∈ zs, z.1 ≠ h.objs.size := fun z hz => by obtain ⟨_, _, _, _, pz, _⟩ := rows z hz; exact Nat.ne_of_lt pz.lt
  have p := p.kept k₁ (by simp)
  have rows := fun z hz => (rows z hz).kept k₁ (by simp)
  have hzl : zs.length = l.length := by rw [← e]; simp
  refine w_cons (w_AssignLCR (L := h.objs.size) [("key", h.objs.size + 1)] zs (fun r => r.k == k) (fun z u => u = .ref z.1) B room.hand nd (by omega) rfl (by decide) rfl (by decide) rfl (w_ld F rfl ⟨rl, _, rfl, p, F, ?_, ?_, ?_⟩))
  · intro c' C z h₃ m₃ hC hz hN hm k₃
    have r₃ := (rows z hz).kept k₃ (by simp)
    have cell₃ := cell_kept cell k₃ (by simp)
    exact w_tests1 (w_tCmp (w_Sub (w_ns hN hm (w_int fun t => w_row1 r₃ fun t => w_cell cell₃ (w_eq (w_truthy ⟨rfl, Kept.refl _ _⟩))))))
  · intro c' C z h₃ m₃ hC hz _ hN hm k₃
    exact w_ns hN hm ⟨rfl, Kept.refl _ _⟩
  · intro D h₃ ys hD p₃ pr F₃ k₃
    have ey := paired_refs pr
    subst ey
    have rows₃ : ∀ z ∈ zs, LRow h₃ z.1 z.2 := fun z hz => (rows z hz).kept k₃ (by simpa using hzL z hz)
    have ef : lfind l k = (zs.filter fun z => z.2.k == k).head?.map (·.2) := by
      rw [← e, lfind, List.head?_filter, List.find?_map]; rfl
    have kk : Kept [] h h₃ := Kept.fin (k₁.nil.trans k₃)
    refine w_cons (w_Return (w_IfExp (w_tCmp (w_ld F₃ rfl (w_List (w_items0 ⟨by simp, fun h₄ p₄ k₄ => w_neNil (p₃.kept k₄ (by simp)) p₄ (room.deeper (m := 0)).u (w_truthy ?_)⟩))))))
    have F₄ := fk0 F₃ k₄
    cases ez : zs.filter fun z => z.2.k == k with
    | nil =>
      rw [ez] at ef
      first | refine if_no (by first | rfl | simp only [List.map_nil, List.isEmpty_nil, Bool.not_true]) ?_ | simp only [List.map_nil, List.isEmpty_nil, Bool.not_true, Bool.false_eq_true, if_false]
      refine w_none (q h₄ .none (kk.trans k₄) ?_)
      rw [ef]; rfl
    | cons z us =>
      rw [ez] at ef p₃
      first | refine if_yes (by first | rfl | simp only [List.map_cons, List.isEmpty_cons, Bool.not_false]) ?_ | simp only [List.map_cons, List.isEmpty_cons, Bool.not_false, if_true]
      have hz : z ∈ zs := (List.mem_filter.mp (by rw [ez]; exact List.mem_cons_self)).1
      have hle : us.length + 1 ≤ zs.length := by
        have := List.length_filter_le (fun z : Addr × LR => z.2.k == k) zs
        rw [ez] at this; simpa using this
      refine w_Sub (w_ld F₄ rfl (w_int fun t => w_litem (j := 0) (p₃.kept k₄ (by simp)) rfl (by simp; omega) rfl (q h₄ _ (kk.trans k₄) ?_)))
      rw [ef]
      exact ⟨z.1, rfl, (rows₃ z hz).kept k₄ (by simp), nX z hz⟩
end
end Mine
end

section
open PySem PySem.W PyProof.Rows PySem.Calls PySem.SeqAt
namespace Mine
theorem m1 {a : Addr} {S : List Addr} (h : a ∈ S) : ∀ x ∈ [a], x ∈ S := mem_one h
theorem LawAt.xl {prog : Program} {w : World} {base h : Heap} {l : LA} {X : List Addr} {τ : LSt} {L : Addr} {m : Str → Option Value} (x : LawAt prog w h l (L :: X) τ) (F : Fr base L h m) (hX : ∀ a ∈ X, a < L) : ∀ a ∈ l.all ++ (L :: X), a < h.objs.size := by
  have hL : L < h.objs.size := by obtain ⟨o, _, _, e, _⟩ := F.ns; exact Heap.lt_size e
  intro a ha
  rcases List.mem_append.mp ha with ha | ha
  · exact x.lt a ha
  · rcases List.mem_cons.mp ha with rfl | ha
    · exact hL
    · exact Nat.lt_trans (hX a ha) hL
/-- at a def's entry: its frame joins what no row stands at -/
theorem LawAt.enter {prog : Program} {w : World} {h h₁ : Heap} {l : LA} {X : List Addr} {τ : LSt} (x : LawAt prog w h l X τ) (k : Kept [] h h₁) : LawAt prog w h₁ l (h.objs.size :: X) τ :=
  (x.add fun a ha => by
    rcases List.mem_cons.mp ha with rfl | ha
    · exact .inr (Nat.le_refl _)
    · exact .inl ha).kept0 k
theorem LawAt.leave {prog : Program} {w : World} {h : Heap} {l : LA} {X : List Addr} {τ : LSt} {L : Addr} (x : LawAt prog w h l (L :: X) τ) : LawAt prog w h l X τ :=
  x.add fun a ha => .inl (List.mem_cons_of_mem _ ha)
theorem LawAt.frame {prog : Program} {w : World} {h h' : Heap} {l : LA} {X : List Addr} {τ : LSt} {L : Addr} (x : LawAt prog w h l (L :: X) τ) (k : Kept [L] h h') (hL : L ∉ l.all) : LawAt prog w h' l (L :: X) τ :=
  x.kept k fun a ha => by rw [List.mem_singleton.mp ha]; exact ⟨hL, List.mem_cons_self⟩
theorem fL {l : LA} {h : Heap} (hl : ∀ a ∈ l.all, a < h.objs.size) : h.objs.size ∉ l.all := not_mem_of_lt hl
theorem cnV_set5 (n : Cn) (t : Nat → Tok) (i : Int) (u : Tok) : (cnV n t).set 5 (.int i u) = cnV { n with po := i } (fun j => if j = 5 then u else t j) := rfl

section
variable {prog : Program} {w : World} {c : Cx} {base h : Heap} {A : Around} {R : Result → Heap → Prop} {E : Value → Heap → Prop} {env : Env} {l : LA} {X : List Addr} {τ : LSt}

theorem w_sd {k : Str} {t : Tok} {v s : Expr} {V : Value} {Q : Value → Heap → Prop} {m g : Int} {tm tg : Tok} (d : DS prog w h l.sd (stKv l m g tm tg)) (hV : valueAt (stKv l m g tm tg) k = some V) (q : Q V h)
    (hs : subscripted s false (.ref l.sd) (.str k t) = operate [.ref l.sd, .str k t] (getItem (.ref l.sd) (.str k t)) := by with_unfolding_all rfl) : W prog w c A (subscriptTail v s (.ref l.sd) (.str k t)) Q E h := w_sget d hV q hs

/-- _law_total(rows, ..) -/
theorem s_total {xp rp pos : Pos} {tup : Expr} {Q : Value → Heap → Prop} {rl : Addr} {Y : List Addr} {rs : List LR} {ss : List Int} {L : Addr} {m : Str → Option Value} (B : Base w base) (room : Room A 1) (F : Fr base L h m) (x : RowsAt h rl Y rs) (hl : LSz rs)
    (y : W prog w c A (eval (.Name "rows" rp) env) (fun v h' => v = .ref rl ∧ h' = h) E h)
    (yt : W prog w c A (eval tup env) (fun v h' => ∃ a vs, v = .ref a ∧ PT h' a vs ∧ IntsV vs ss ∧ Kept [] h h') E h)
    (q : ∀ h' t, Kept [] h h' → Q (.int (ltot ss rs) t) h')
    (hk : env.scope.kind = .function := by rfl) (hx : env.kindOf ("_law_total" : Str) = some .globalImplicit := by rfl) (hg : env.globals = mainGlobals := by rfl)
    (hc : eval (.Call (.Name "_law_total" xp) [.Name "rows" rp, tup] [] pos) env = (do callWith pos (← eval (.Name "_law_total" xp) env) [] (backTo pos (starEach [.Name "rows" rp, tup] env)) (backToKw pos (keywordEach [] env))) := by rfl)
    (he : starEach [.Name "rows" rp, tup] env = (false, eval (.Name "rows" rp) env) :: starEach [tup] env := by rfl) (he2 : starEach [tup] env = (false, eval tup env) :: starEach [] env := by rfl)
    (hplain : (backTo pos (starEach [tup] env)).any (·.1) = false := by rfl) :
    W prog w c A (eval (.Call (.Name "_law_total" xp) [.Name "rows" rp, tup] [] pos) env) Q E h := by
  refine w_fcall B F.keep (by k_is) (by k_is) (w_items (y.post fun v h₁ ⟨e1, e2⟩ => ?_) he) hk hx hg (by decide) hc he hplain
  subst e1 e2
  refine w_items (yt.post fun v h₂ ⟨a, vs, e, p, i, k⟩ => ?_) he2
  subst e
  exact w_items0 ⟨fun b o e => k.all b o (F.keep b o e), c_law_total B (fun b o e => k.all b o (F.keep b o e)) room (x.kept0 k) p i hl fun h' t k' => q h' t (k.trans k')⟩
theorem s_tup1 {a : Int} {p1 p : Pos} {k1 k : Nat} (i : Value → Heap → Prop) (q : ∀ h' b vs, PT h' b vs → IntsV vs [a] → Kept [] h h' → i (.ref b) h')
    (h1 : starEach [.Constant (.int a) k1 p1] env = (false, eval (.Constant (.int a) k1 p1) env) :: starEach [] env := by rfl) : W prog w c A (eval (.Tuple [.Constant (.int a) k1 p1] k p) env) i E h :=
  w_Tuple (w_items (w_int fun t => w_items0 ⟨by simp, fun h' p' k' => q h' _ _ p' (.cons ⟨t, rfl⟩ .nil) k'⟩) h1)
theorem s_tup2 {a b : Int} {p1 p2 p : Pos} {k1 k2 k : Nat} (i : Value → Heap → Prop) (q : ∀ h' d vs, PT h' d vs → IntsV vs [a, b] → Kept [] h h' → i (.ref d) h')
    (h1 : starEach [.Constant (.int a) k1 p1, .Constant (.int b) k2 p2] env = (false, eval (.Constant (.int a) k1 p1) env) :: starEach [.Constant (.int b) k2 p2] env := by rfl)
    (h2 : starEach [.Constant (.int b) k2 p2] env = (false, eval (.Constant (.int b) k2 p2) env) :: starEach [] env := by rfl) : W prog w c A (eval (.Tuple [.Constant (.int a) k1 p1, .Constant (.int b) k2 p2] k p) env) i E h :=
  w_Tuple (w_items (w_int fun t => w_items (w_int fun u => w_items0 ⟨by simp, fun h' p' k' => q h' _ _ p' (.cons ⟨t, rfl⟩ (.cons ⟨u, rfl⟩ .nil)) k'⟩) h2) h1)

theorem c_law_away {b : Addr} {r : LR} (B : Base w base) (kp : In0 base h) (room : Room A 1) (x : LawAt prog w h l X τ) (hX : ∀ a ∈ X, a < h.objs.size) (hr : LRow h b r) (hb : b ∉ l.all) (hm : r ∈ τ.rows) (hl : τ.rows.length ≤ 500)
    (q : ∀ h', Kept l.all h h' → LawAt prog w h' l X (lawAway τ r) → R (.ok (.ret .none)) h') : C prog w c A (.call (.ref 306) ⟨[.ref l.rl, .ref l.sd, .ref b], []⟩) R h := by
  refine cf [("rows", .ref l.rl), ("state", .ref l.sd), ("row", .ref b)] B kp room (by k_is) (by k_is) (fun _ _ => BindsTo.of_eq rfl) (locs rfl) (fun h₁ F k₁ => ?_)
  have hL := fL x.lt
  have x₁ := x.enter k₁
  have hr₁ := hr.kept k₁ (by simp)
  have hbl : b ≠ l.rl := fun e => hb (e ▸ l.m1)
  have hin : l.rl ∈ l.all ++ (h.objs.size :: X) := List.mem_append_left _ l.m1
  -- rows.remove(row)
  refine w_cons (w_ExprAny (s_removeRow (room.deeper (m := 0)).u1 (w_ld F rfl ⟨_, _, _, rfl, x₁.rows, hin, by omega, w_ld F rfl ⟨b, r, rfl, x₁.rows, hr₁, hm, fun h₂ k₂ rows₂ => ?_⟩⟩)))
  have x₂ := x₁.setRows k₂ rows₂
  have F₂ := fk B F (k₂.mono (m1 l.m1)) hL x.lo
  have hr₂ := hr₁.kept k₂ (by simpa using hbl)
  have hlen : (τ.rows.erase r).length ≤ 500 := Nat.le_trans (erase_sub _ _).length_le hl
  -- rows.append([row[0] + 2, row[1], row[2], None])
  refine w_cons (w_ExprAny (s_appendRow (w_ld F₂ rfl ⟨_, _, _, rfl, x₂.rows, hin, by dsimp only; omega, x₂.xl F₂ hX, s_newRow (r := ⟨r.s + 2, r.k, r.z, none⟩)
    (w_BinOp (w_Sub (w_ld F₂ rfl (w_int fun t => w_row0 hr₂ fun t => w_int fun u => w_add fun t => ⟨⟨t, rfl⟩, rfl⟩))))
    (w_Sub (w_ld F₂ rfl (w_int fun t => w_row1 hr₂ fun t => ⟨⟨t, rfl⟩, rfl⟩)))
    (w_Sub (w_ld F₂ rfl (w_int fun t => w_row2 hr₂ fun t => ⟨⟨t, rfl⟩, rfl⟩)))
    (w_none ⟨rfl, rfl⟩)
    fun h₃ k₃ lr => ⟨_, _, rfl, k₃, Nat.le_refl _, lr, fun h₄ k₄ rows₄ => ?_⟩⟩)))
  have x₄ := (x₂.kept0 k₃).setRows k₄ rows₄
  have F₄ := fk B (fk0 F₂ k₃) (k₄.mono (m1 l.m1)) hL x.lo
  -- state['counts'][5] += 1
  obtain ⟨tm, tg, d⟩ := x₄.st
  obtain ⟨ct, ci⟩ := x₄.cn
  refine w_cons (w_AugSub (w_Sub (w_ld F₄ rfl (w_str fun t => w_sd d rfl (w_int fun t => w_lgetI (j := 5) ci rfl (by simp) rfl (w_int fun t => w_iadd fun t' => w_lset (j := 5) ci rfl (by simp) (by simp) fun h₅ i₅ k₅ => ?_))))))
  have x₅ := x₄.setCn k₅ ⟨_, by rw [cnV_set5] at i₅; exact i₅⟩
  refine w_nil (q h₅ ?_ x₅.leave)
  exact Kept.fin ((((k₁.nil.trans (k₂.mono fun a ha => inl a (m1 l.m1 a ha))).trans k₃.nil).trans (k₄.mono fun a ha => inl a (m1 l.m1 a ha))).trans (k₅.mono fun a ha => inl a (m1 l.m4 a ha)))
end
end Mine
end

section
open PySem PySem.W PyProof.Rows PySem.Calls PySem.SeqAt
namespace Mine
theorem lcut_nil {i : Int} {ss : List Int} {lim : Int} {l : List LR} (e : ofS i l = []) : ∀ n, lcut i ss lim n l = l
  | 0 => rfl
  | n + 1 => by unfold lcut; rw [e]
theorem LSz.sub {l l' : List LR} (x : LSz l) (s : l'.Sublist l) : LSz l' := ⟨fun r hr => x.1 r (s.subset hr), Nat.le_trans s.length_le x.2⟩
theorem ofS_mem {i : Int} {l : List LR} {r : LR} (h : r ∈ ofS i l) : r ∈ l ∧ r.s = i := by
  obtain ⟨a, b⟩ := List.mem_filter.mp h; exact ⟨a, by simpa using b⟩

section
variable {prog : Program} {w : World} {c : Cx} {base h : Heap} {A : Around} {R : Result → Heap → Prop} {E : Value → Heap → Prop} {env : Env} {l : LA} {X : List Addr} {τ : LSt}

theorem c_law_cut (B : Base w base) (kp : In0 base h) (room : Room A 2) (x : LawAt prog w h l X τ) (hX : ∀ a ∈ X, a < h.objs.size) (g : LGood τ)
    (q : ∀ h', Kept l.all h h' → LawAt prog w h' l X (lawCut τ) → R (.ok (.ret .none)) h') : C prog w c A (.call (.ref 311) ⟨[.ref l.rl, .ref l.sd], []⟩) R h := by
  refine cf [("rows", .ref l.rl), ("state", .ref l.sd)] B kp room (by k_is) (by k_is) (fun _ _ => BindsTo.of_eq rfl) (locs rfl) (fun h₁ F k₁ => ?_)
  have hL := fL x.lt
  have x₁ := x.enter k₁
  have hu : ∀ env, (A.deeper env).units < cLine := fun env => (room.deeper (m := 0)).u
  have hin : l.rl ∈ l.all ++ (h.objs.size :: X) := List.mem_append_left _ l.m1
  have fin : ∀ {h'}, Kept (h.objs.size :: l.all) h₁ h' → Kept l.all h h' := fun k => Kept.fin (k₁.nil.trans (k.mono (by simp; exact fun a ha => .inl ha)))
  have sub : ∀ a ∈ [l.rl], a ∈ h.objs.size :: l.all := fun a ha => List.mem_cons_of_mem _ (m1 l.m1 a ha)
  have mp := g.mp
  have g8 := g.len
  refine w_cons (W.post (Q := fun f h' => f = .next ∧ Fr base h.objs.size h' (fun y => List.lookup y (([("rows", Value.ref l.rl), ("state", Value.ref l.sd)] : List (Str × Value)).reverse)) ∧ LawAt prog w h' l (h.objs.size :: X) { τ with rows := lcut 3 [1, 3] τ.most τ.rows.length τ.rows } ∧ Kept (h.objs.size :: l.all) h₁ h')
    (w_WhileF (L := h.objs.size) l.all [] B (fun n h' => ∃ rs : List LR, rs.Sublist τ.rows ∧ LawAt prog w h' l (h.objs.size :: X) { τ with rows := rs } ∧ lcut 3 [1, 3] τ.most n rs = lcut 3 [1, 3] τ.most τ.rows.length τ.rows ∧ rs.length ≤ n) F τ.rows.length ⟨τ.rows, List.Sublist.refl _, x₁, rfl, Nat.le_refl _⟩ ?_) ?_)
  · rintro n h₂ m₂ ⟨rs, sr, x₂, el, hn⟩ F₂ e₂ k₂
    have e₂' : m₂ = _ := funext fun y => e₂ y (by simp)
    subst e₂'
    have hl : rs.length ≤ 8 := Nat.le_trans sr.length_le g8
    refine w_tAnd (w_and (w_tCmp (s_sort room.hand x₂.rows (by dsimp only; omega) rfl (by decide) rfl (by decide) rfl (w_ld F₂ rfl ⟨rfl, rfl⟩) fun D h₃ bs hD pD rv k₃ => w_List (w_items0 ⟨by simp, fun h₄ p₄ k₄ => w_neNil (pD.kept k₄ (by simp)) p₄ (hu _) (w_truthy ?_)⟩))))
    have k24 : Kept [] h₂ h₄ := k₃.trans k₄
    have F₄ := fk0 F₂ k24
    have x₄ := x₂.kept0 k24
    have hbl := rv.len
    cases ez : ofS 3 rs with
    | nil =>
      have : bs = [] := by rw [ez] at hbl; exact List.eq_nil_of_length_eq_zero hbl
      subst this
      first | refine if_no (by first | rfl | simp only [List.map_nil, List.isEmpty_nil, Bool.not_true]) ?_ | simp only [List.map_nil, List.isEmpty_nil, Bool.not_true, Bool.false_eq_true, if_false]
      rw [lcut_nil ez] at el
      refine w_nil ⟨rfl, F₄, ?_, k₂.trans k24.nil⟩
      rw [← el]; exact x₄
    | cons r us =>
      have : (!(bs.map Value.ref).isEmpty) = true := by rw [ez] at hbl; cases bs with | nil => simp at hbl | cons => rfl
      first | refine if_yes (by first | rfl | simp only [this]) ?_ | simp only [this, if_true]
      obtain ⟨hr, -⟩ := ofS_mem (i := 3) (l := rs) (r := r) (by rw [ez]; exact List.mem_cons_self)
      obtain ⟨n, rfl⟩ : ∃ i, n = i + 1 := ⟨n - 1, by have := List.length_pos_of_mem hr; omega⟩
      rw [lcut, ez] at el
      dsimp only at el
      refine w_and (w_tCmp (s_total B room.deeper F₄ x₄.rows (g.sz.sub sr) (w_ld F₄ rfl ⟨rfl, rfl⟩) (s_tup2 _ fun h' d vs p i k => ⟨d, vs, rfl, p, i, k⟩) fun h₅ t k₅ => ?_))
      have F₅ := fk0 F₄ k₅
      have x₅ := x₄.kept0 k₅
      obtain ⟨tm, tg, d⟩ := x₅.st
      refine w_Sub (w_ld F₅ rfl (w_str fun t => w_sd d rfl (w_gt (w_truthy ?_))))
      by_cases cnd : ltot [1, 3] rs > τ.most
      · simp only [cnd, decide_true, if_true] at el ⊢
        refine w_and0 ?_
        first | refine if_yes (by rfl) ?_ | simp only [if_true]
        refine w_cons (w_ExprAny (s_removeRow (room.deeper (m := 0)).u1 (w_ld F₅ rfl ⟨_, _, _, rfl, x₅.rows, hin, by dsimp only; omega, w_Sub (s_sort room.hand x₅.rows (by dsimp only; omega) rfl (by decide) rfl (by decide) rfl (w_ld F₅ rfl ⟨rfl, rfl⟩) fun D h₆ bs hD pD rv k₆ => w_int fun t => ?_)⟩)))
        dsimp only at rv
        rw [ez] at rv
        cases rv with
        | cons f rest =>
          rename_i b bs'
          have hbs : bs'.length ≤ 8 := by
            have h1 := rest.length
            have h2 := List.length_filter_le (fun r : LR => r.s == 3) rs
            have h3 : (ofS 3 rs).length = us.length + 1 := by rw [ez]; rfl
            unfold ofS at h3; omega
          refine w_litem (j := 0) pD rfl (by simp; omega) rfl ⟨b, r, rfl, (x₅.kept0 k₆).rows, f.1, hr, fun h₇ k₇ rows₇ => ?_⟩
          have x₇ := (x₅.kept0 k₆).setRows k₇ rows₇
          have F₇ := fk B (fk0 F₅ k₆) (k₇.mono (m1 l.m1)) hL x.lo
          refine w_nil ⟨⟨n, Nat.lt_succ_self n, rs.erase r, (erase_sub _ _).trans sr, x₇, el, ?_⟩, ⟨_, F₇, fun _ _ => rfl⟩, ((k24.nil.trans k₅.nil).trans k₆.nil).trans (k₇.mono sub)⟩
          rw [List.length_erase_of_mem hr]; omega
      · simp only [cnd, decide_false, Bool.false_eq_true, if_false] at el ⊢
        refine w_nil ⟨rfl, F₅, ?_, k₂.trans (k24.trans k₅).nil⟩
        rw [← el]; exact x₅
  rintro f h₆ ⟨rfl, F₆, x₆, k₆⟩
  have g₆ := g.subRows (lcut_sub 3 [1, 3] τ.most τ.rows.length τ.rows)
  have res : lawCut τ = { τ with rows := lcut 4 [1, 2, 3, 4] (2 * τ.most) (lcut 3 [1, 3] τ.most τ.rows.length τ.rows).length (lcut 3 [1, 3] τ.most τ.rows.length τ.rows) } := rfl
  generalize lcut 3 [1, 3] τ.most τ.rows.length τ.rows = ws at x₆ g₆ res
  have w8 : ws.length ≤ 8 := g₆.len
  refine w_cons (w_WhileF (L := h.objs.size) l.all [] B (fun n h' => ∃ rs : List LR, rs.Sublist ws ∧ LawAt prog w h' l (h.objs.size :: X) { τ with rows := rs } ∧ lcut 4 [1, 2, 3, 4] (2 * τ.most) n rs = lcut 4 [1, 2, 3, 4] (2 * τ.most) ws.length ws ∧ rs.length ≤ n) F₆ ws.length ⟨ws, List.Sublist.refl _, x₆, rfl, Nat.le_refl _⟩ ?_)
  rintro n h₂ m₂ ⟨rs, sr, x₂, el, hn⟩ F₂ e₂ k₂
  have e₂' : m₂ = _ := funext fun y => e₂ y (by simp)
  subst e₂'
  have hl : rs.length ≤ 8 := Nat.le_trans sr.length_le w8
  have out : ∀ {h'}, Kept [] h₂ h' → LawAt prog w h' l (h.objs.size :: X) { τ with rows := rs } → rs = lcut 4 [1, 2, 3, 4] (2 * τ.most) ws.length ws → R (.ok (.ret .none)) h' := fun k x' e => q _ (fin ((k₆.trans k₂).trans k.nil)) (by rw [res, ← e]; exact x'.leave)
  refine w_tAnd (w_and (w_tCmp (s_sort room.hand x₂.rows (by dsimp only; omega) rfl (by decide) rfl (by decide) rfl (w_ld F₂ rfl ⟨rfl, rfl⟩) fun D h₃ bs hD pD rv k₃ => w_List (w_items0 ⟨by simp, fun h₄ p₄ k₄ => w_neNil (pD.kept k₄ (by simp)) p₄ (hu _) (w_truthy ?_)⟩))))
  have k24 : Kept [] h₂ h₄ := k₃.trans k₄
  have F₄ := fk0 F₂ k24
  have x₄ := x₂.kept0 k24
  have hbl := rv.len
  cases ez : ofS 4 rs with
  | nil =>
    have : bs = [] := by rw [ez] at hbl; exact List.eq_nil_of_length_eq_zero hbl
    subst this
    first | refine if_no (by first | rfl | simp only [List.map_nil, List.isEmpty_nil, Bool.not_true]) ?_ | simp only [List.map_nil, List.isEmpty_nil, Bool.not_true, Bool.false_eq_true, if_false]
    rw [lcut_nil ez] at el
    exact w_nil (w_nil (out k24 x₄ el))
  | cons r us =>
    have : (!(bs.map Value.ref).isEmpty) = true := by rw [ez] at hbl; cases bs with | nil => simp at hbl | cons => rfl
    first | refine if_yes (by first | rfl | simp only [this]) ?_ | simp only [this, if_true]
    obtain ⟨hr, -⟩ := ofS_mem (i := 4) (l := rs) (r := r) (by rw [ez]; exact List.mem_cons_self)
    obtain ⟨n, rfl⟩ : ∃ i, n = i + 1 := ⟨n - 1, by have := List.length_pos_of_mem hr; omega⟩
    rw [lcut, ez] at el
    dsimp only at el
    refine w_and (w_tCmp (s_total B room.deeper F₄ x₄.rows (g₆.sz.sub sr) (w_ld F₄ rfl ⟨rfl, rfl⟩) (w_Tuple (w_items (w_int fun t1 => w_items (w_int fun t2 => w_items (w_int fun t3 => w_items (w_int fun t4 => w_items0 ⟨by simp, fun h' p' k' => ⟨_, _, rfl, p', .cons ⟨t1, rfl⟩ (.cons ⟨t2, rfl⟩ (.cons ⟨t3, rfl⟩ (.cons ⟨t4, rfl⟩ .nil))), k'⟩⟩)))))) fun h₅ t k₅ => ?_))
    have F₅ := fk0 F₄ k₅
    have x₅ := x₄.kept0 k₅
    obtain ⟨tm, tg, d⟩ := x₅.st
    refine w_BinOp (w_int fun t => w_Sub (w_ld F₅ rfl (w_str fun t => w_sd d rfl (w_mul (by omega) fun t => w_gt (w_truthy ?_)))))
    dsimp only
    by_cases cnd : ltot [1, 2, 3, 4] rs > 2 * τ.most
    · simp only [cnd, decide_true, if_true] at el ⊢
      refine w_and0 ?_
      first | refine if_yes (by rfl) ?_ | simp only [if_true]
      refine w_cons (w_ExprAny (s_removeRow (room.deeper (m := 0)).u1 (w_ld F₅ rfl ⟨_, _, _, rfl, x₅.rows, hin, by dsimp only; omega, w_Sub (s_sort room.hand x₅.rows (by dsimp only; omega) rfl (by decide) rfl (by decide) rfl (w_ld F₅ rfl ⟨rfl, rfl⟩) fun D h₆ bs hD pD rv k₆ => w_int fun t => ?_)⟩)))
      dsimp only at rv
      rw [ez] at rv
      cases rv with
      | cons f rest =>
        rename_i b bs'
        have hbs : bs'.length ≤ 8 := by
          have h1 := rest.length
          have h2 := List.length_filter_le (fun r : LR => r.s == 4) rs
          have h3 : (ofS 4 rs).length = us.length + 1 := by rw [ez]; rfl
          unfold ofS at h3; omega
        refine w_litem (j := 0) pD rfl (by simp; omega) rfl ⟨b, r, rfl, (x₅.kept0 k₆).rows, f.1, hr, fun h₇ k₇ rows₇ => ?_⟩
        have x₇ := (x₅.kept0 k₆).setRows k₇ rows₇
        have F₇ := fk B (fk0 F₅ k₆) (k₇.mono (m1 l.m1)) hL x.lo
        refine w_nil ⟨⟨n, Nat.lt_succ_self n, rs.erase r, (erase_sub _ _).trans sr, x₇, el, ?_⟩, ⟨_, F₇, fun _ _ => rfl⟩, ((k24.nil.trans k₅.nil).trans k₆.nil).trans (k₇.mono sub)⟩
        rw [List.length_erase_of_mem hr]; omega
    · simp only [cnd, decide_false, Bool.false_eq_true, if_false] at el ⊢
      exact w_nil (w_nil (out (k24.trans k₅) x₅ el))
end
end Mine
end

section
open PySem PySem.W PyProof.Rows PySem.Calls PySem.SeqAt
namespace Mine
def cnt (l : List LR) : Nat := (l.filter fun r => decide (r.s ≤ 2)).length
theorem cnt_le (l : List LR) : cnt l ≤ l.length := List.length_filter_le _ _
theorem cnt_erase {l : List LR} {r : LR} (h : r ∈ l) (h2 : r.s ≤ 2) : cnt (l.erase r) + 1 = cnt l := by
  have p : l.Perm (r :: l.erase r) := List.perm_cons_erase h
  have := (p.filter fun r => decide (r.s ≤ 2)).length_eq
  unfold cnt
  rw [this, List.filter_cons]
  simp [h2]
theorem cnt_away {τ : LSt} {r : LR} (h : r ∈ τ.rows) (h2 : r.s = 1 ∨ r.s = 2) : cnt (lawAway τ r).rows + 1 = cnt τ.rows := by
  rw [← cnt_erase h (by omega)]
  unfold lawAway cnt
  dsimp only
  rw [List.filter_append, List.length_append]
  have : decide (r.s + 2 ≤ 2) = false := by simp; omega
  simp [this]

section
variable {prog : Program} {w : World} {c : Cx} {base h : Heap} {A : Around} {R : Result → Heap → Prop} {E : Value → Heap → Prop} {env : Env} {l : LA} {X : List Addr} {τ : LSt}

theorem w_ladd {a b : Addr} {vs us : List Value} {Q : Value → Heap → Prop} (p : PL h a vs) (p' : PL h b us) (hl : vs.length + us.length ≤ 100000)
    (q : ∀ h', Kept [] h h' → PL h' h.objs.size (vs ++ us) → Q (.ref h.objs.size) h') : W prog w c A (binaryOp .Add (.ref a) (.ref b)) Q E h := by
  obtain ⟨k, e⟩ := p; obtain ⟨k', e'⟩ := p'
  exact ⟨fun n => P.add_list (s := c.st h n) e e' ⟨_, _, rfl, q _ (Kept.push _ _) ⟨0, by simpa using Heap.get?_push_size h (o := { cls := .type "list", data := .seq (vs.toArray ++ us.toArray) }) rfl⟩⟩ (by rw [sizeLine_eq]; simp; omega)⟩
theorem w_eqNil {D e : Addr} {vs : List Value} {Q : Value → Heap → Prop} (p : PL h D vs) (p' : PL h e []) (hu : A.units < cLine) (q : Q (.bool vs.isEmpty) h) : W prog w c A (compareOp .Eq (.ref D) (.ref e)) Q E h := by
  cases vs with
  | nil => exact ⟨fun n => eq_listAt (s := c.st h n) (e := fun _ => true) p.isList p'.isList rfl hu (fun j h1 => absurd h1 (by simp)) ⟨_, _, rfl, q⟩⟩
  | cons v vs => exact ⟨fun n => eq_list_lengthsAt (s := c.st h n) p.isList p'.isList (by simp) hu ⟨_, _, rfl, q⟩⟩

theorem c_law_out {z : Int} {zt : Tok} {s : Bool} (B : Base w base) (kp : In0 base h) (room : Room A 2) (x : LawAt prog w h l X τ) (hX : ∀ a ∈ X, a < h.objs.size) (g : LGood τ)
    (q : ∀ h', Kept l.all h h' → LawAt prog w h' l X (lawOut τ z s) → R (.ok (.ret .none)) h') : C prog w c A (.call (.ref 299) ⟨[.ref l.rl, .ref l.sd, .int z zt, .bool s], []⟩) R h := by
  refine cfC [("rows", .ref l.rl), ("state", .ref l.sd), ("size", .int z zt), ("is_second", .bool s)] "state" (.ref l.sd) B kp room (by k_is) (by k_is) rfl (fun _ => rfl) rfl rfl rfl (fun h₁ F cell k₁ => ?_)
  have hL := fL x.lt
  have x₁ := x.enter k₁
  have hu : ∀ env, (A.deeper env).units < cLine := fun env => (room.deeper (m := 0)).u
  have hrl : l.rl ∈ l.all ++ (h.objs.size :: X) := List.mem_append_left _ l.m1
  have fin : ∀ {h'}, Kept (h.objs.size :: l.all) h₁ h' → Kept l.all h h' := fun k => Kept.fin (k₁.nil.trans (k.mono (by simp; exact fun a ha => .inl ha)))
  have hC : h.objs.size + 1 ∉ h.objs.size :: l.all := by
    simp only [List.mem_cons, not_or]
    exact ⟨Nat.succ_ne_self _, fun m => Nat.lt_irrefl _ (Nat.lt_trans (x.lt _ m) (Nat.lt_succ_self _))⟩
  refine w_cons (w_WhileF (L := h.objs.size) l.all ["recent", "often", "own", "goes"] B (fun n h' => ∃ τ', LawAt prog w h' l (h.objs.size :: X) τ' ∧ LGood τ' ∧ lout n τ' z s = lawOut τ z s ∧ cnt τ'.rows + 1 ≤ n ∧ h'.IsCell (h.objs.size + 1) (some (.ref l.sd))) F (τ.rows.length + 1) ⟨τ, x₁, g, rfl, Nat.succ_le_succ (cnt_le _), cell⟩ ?_)
  rintro n h₂ m₂ ⟨τ', x₂, g₂, el, hn, cell₂⟩ F₂ e₂ k₂
  obtain ⟨n, rfl⟩ : ∃ i, n = i + 1 := ⟨n - 1, by omega⟩
  rw [lout] at el
  have g8 := g₂.len
  refine w_tCmp (w_BinOp (s_total B room.deeper F₂ x₂.rows g₂.sz (w_ld F₂ ((e₂ _ (by decide)).trans rfl) ⟨rfl, rfl⟩) (s_tup2 _ fun h' d vs p i k => ⟨d, vs, rfl, p, i, k⟩) fun h₃ t k₃ => ?_))
  have F₃ := fk0 F₂ k₃
  have x₃ := x₂.kept0 k₃
  have cell₃ := cell_kept cell₂ k₃ (by simp)
  obtain ⟨tm, tg, d⟩ := x₃.st
  refine w_ld F₃ ((e₂ _ (by decide)).trans rfl) (w_add fun t => w_Sub (w_cell cell₃ (w_str fun t => w_sd d rfl (w_gt (w_truthy ?_)))))
  by_cases cnd : ltot [1, 2] τ'.rows + z > τ'.most
  · simp only [cnd, decide_true, if_true] at el ⊢
    -- recent = [..]
    obtain ⟨zs, ez, nd, p₃, rows₃, nX₃⟩ := x₃.rows
    have hzl : zs.length = τ'.rows.length := by rw [← ez]; simp
    have H₃ := x₃.held
    refine w_cons (w_AssignLCR (L := h.objs.size) [("state", h.objs.size + 1)] zs (fun r => r.s == 1 && !hin τ'.held r.k) (fun z u => u = .ref z.1) B room.hand nd (by omega) rfl (by decide) rfl (by decide) rfl (w_ld F₃ ((e₂ _ (by decide)).trans rfl) ⟨l.rl, _, rfl, p₃, F₃, ?_, ?_, ?_⟩))
    · intro c' C z' h₄ m₄ hC' hz hN hm k₄
      have r₄ := (rows₃ z' hz).kept k₄ (by simp)
      have cell₄ := cell_kept cell₃ k₄ (by simp)
      have d₄ := d.kept k₄ (by simp)
      refine w_tests1 (w_tAnd (w_and (w_tCmp (w_Sub (w_ns hN hm (w_int fun t => w_row0 r₄ fun t => w_int fun u => w_eq (w_truthy ?_)))))))
      cases e1 : (z'.2.s == 1) with
      | false => simp only [Bool.false_eq_true, if_false, Bool.false_and]; exact ⟨by first | rfl | trivial, Kept.refl _ _⟩
      | true =>
        simp only [if_true, Bool.true_and]
        obtain ⟨lo, cl, eh, dh⟩ := H₃.kept k₄ (by simp)
        refine w_and (w_tCmp (w_Sub (w_ns hN hm (w_int fun t => w_row1 r₄ fun t => w_Sub (w_cell cell₄ (w_str fun t => w_sd d₄ rfl (w_dnotin dh lo (w_truthy ?_))))))))
        rw [held_any eh]
        cases e2 : hin τ'.held z'.2.k with
        | true => simp only [Bool.not_true, Bool.false_eq_true, if_false]; exact ⟨by first | rfl | trivial, Kept.refl _ _⟩
        | false => simp only [Bool.not_false, if_true]; exact w_and0 ⟨rfl, Kept.refl _ _⟩
    · intro c' C z' h₄ m₄ hC' hz _ hN hm k₄
      exact w_ns hN hm ⟨rfl, Kept.refl _ _⟩
    · intro D1 h₄ ys1 hD1 p1 pr1 F₄ k₄
      have ey1 := paired_refs pr1
      have x₄ := x₃.frame k₄ hL
      have cell₄ := cell_kept cell₃ k₄ (by simp)
      have rows₄ : ∀ z ∈ zs, LRow h₄ z.1 z.2 := fun z hz => (rows₃ z hz).kept k₄ (fun m => nX₃ z hz (List.mem_append_right _ (by rw [List.mem_singleton.mp m]; exact List.mem_cons_self)))
      have p₄ := p₃.kept k₄ (fun m => hL (by rw [← List.mem_singleton.mp m]; exact l.m1))
      have d₄ := d.kept k₄ (fun m => hL (by rw [← List.mem_singleton.mp m]; exact l.m2))
      have H₄ := x₄.held
      -- often = [..]
      refine w_cons (w_AssignLCR (L := h.objs.size) [("state", h.objs.size + 1)] zs (fun r => r.s == 2 && !hin τ'.held r.k) (fun z u => u = .ref z.1) B room.hand nd (by omega) rfl (by decide) rfl (by decide) rfl (w_ld F₄ ((put_ne (by decide)).trans ((e₂ _ (by decide)).trans rfl)) ⟨l.rl, _, rfl, p₄, F₄, ?_, ?_, ?_⟩))
      · intro c' C z' h₅ m₅ hC' hz hN hm k₅
        have r₅ := (rows₄ z' hz).kept k₅ (by simp)
        have cell₅ := cell_kept cell₄ k₅ (by simp)
        have d₅ := d₄.kept k₅ (by simp)
        refine w_tests1 (w_tAnd (w_and (w_tCmp (w_Sub (w_ns hN hm (w_int fun t => w_row0 r₅ fun t => w_int fun u => w_eq (w_truthy ?_)))))))
        cases e1 : (z'.2.s == 2) with
        | false => simp only [Bool.false_eq_true, if_false, Bool.false_and]; exact ⟨by first | rfl | trivial, Kept.refl _ _⟩
        | true =>
          simp only [if_true, Bool.true_and]
          obtain ⟨lo, cl, eh, dh⟩ := H₄.kept k₅ (by simp)
          refine w_and (w_tCmp (w_Sub (w_ns hN hm (w_int fun t => w_row1 r₅ fun t => w_Sub (w_cell cell₅ (w_str fun t => w_sd d₅ rfl (w_dnotin dh lo (w_truthy ?_))))))))
          rw [held_any eh]
          cases e2 : hin τ'.held z'.2.k with
          | true => simp only [Bool.not_true, Bool.false_eq_true, if_false]; exact ⟨by first | rfl | trivial, Kept.refl _ _⟩
          | false => simp only [Bool.not_false, if_true]; exact w_and0 ⟨rfl, Kept.refl _ _⟩
      · intro c' C z' h₅ m₅ hC' hz _ hN hm k₅
        exact w_ns hN hm ⟨rfl, Kept.refl _ _⟩
      · intro D2 h₅ ys2 hD2 p2 pr2 F₅ k₅
        have ey2 := paired_refs pr2
        have x₅ := x₄.frame k₅ hL
        have cell₅ := cell_kept cell₄ k₅ (by simp)
        have rows₅ : ∀ z ∈ zs, LRow h₅ z.1 z.2 := fun z hz => (rows₄ z hz).kept k₅ (fun m => nX₃ z hz (List.mem_append_right _ (by rw [List.mem_singleton.mp m]; exact List.mem_cons_self)))
        have hD1L : D1 ≠ h.objs.size := fun e => by obtain ⟨o, _, _, e', _⟩ := F₃.ns; rw [← e, hD1] at e'; cases e'
        have p1₅ := p1.kept k₅ (by simpa using hD1L)
        -- own = _law_total(rows, (1,))
        refine w_cons (w_AssignName (s_total B room.deeper F₅ x₅.rows g₂.sz (w_ld F₅ ((put_ne (by decide)).trans ((put_ne (by decide)).trans ((e₂ _ (by decide)).trans rfl))) ⟨rfl, rfl⟩) (s_tup1 _ fun h' d vs p i k => ⟨d, vs, rfl, p, i, k⟩) fun h₆ t₆ k₆ => ?_))
        refine w_st (fk0 F₅ k₆) fun h₇ F₇ k₇ => ?_
        have hD2L : D2 ≠ h.objs.size := fun e => by obtain ⟨o, _, _, e', _⟩ := F₄.ns; rw [← e, hD2] at e'; cases e'
        have x₇ := (x₅.kept0 k₆).frame k₇ hL
        have cell₇ := cell_kept (cell_kept cell₅ k₆ (by simp)) k₇ (by simp)
        have p1₇ := (p1₅.kept k₆ (by simp)).kept k₇ (by simpa using hD1L)
        have p2₇ := (p2.kept k₆ (by simp)).kept k₇ (by simpa using hD2L)
        have rows₇ : ∀ z ∈ zs, LRow h₇ z.1 z.2 := fun z hz => ((rows₅ z hz).kept k₆ (by simp)).kept k₇ (fun m => nX₃ z hz (List.mem_append_right _ (by rw [List.mem_singleton.mp m]; exact List.mem_cons_self)))
        have l1 : ys1.length ≤ 8 := by rw [ey1, List.length_map]; exact Nat.le_trans (List.length_filter_le _ _) (by omega)
        have l2 : ys2.length ≤ 8 := by rw [ey2, List.length_map]; exact Nat.le_trans (List.length_filter_le _ _) (by omega)
        obtain ⟨tm7, tg7, d7⟩ := x₇.st
        -- goes
        refine w_cons (w_AssignName (W.post (Q := fun v h' => Kept [] h₇ h' ∧ ∃ G, ∃ us : List (Addr × LR), v = .ref G ∧ h₇.objs.size ≤ G ∧ PL h' G (us.map fun z : Addr × LR => .ref z.1) ∧ us.map (·.2) = goesL τ' s ∧ (∀ z ∈ us, z ∈ zs) ∧ us.length ≤ 16) ?_ ?_))
        · have f1 : (zs.filter fun z => z.2.s == 1 && !hin τ'.held z.2.k).map (·.2) = freeS τ' 1 := by rw [zf_filter (fun r => r.s == 1 && !hin τ'.held r.k), ez]; rfl
          have f2 : (zs.filter fun z => z.2.s == 2 && !hin τ'.held z.2.k).map (·.2) = freeS τ' 2 := by rw [zf_filter (fun r => r.s == 2 && !hin τ'.held r.k), ez]; rfl
          refine w_IfExp (W.post (Q := fun b h' => b = decide (ltot [1] τ'.rows > τ'.goal ∨ (s = true ∧ ltot [1] τ'.rows = τ'.goal)) ∧ h' = h₇) ?_ ?_)
          · refine w_tAnd (w_or (w_tCmp (w_ld F₇ rfl (w_Sub (w_cell cell₇ (w_str fun t => w_sd d7 rfl (w_gt (w_truthy ?_))))))))
            by_cases c1 : ltot [1] τ'.rows > τ'.goal
            · refine if_yes (decide_eq_true c1) ?_
              simp [c1]
            · refine if_no (decide_eq_false c1) ?_
              simp only [c1, false_or]
              refine w_or (w_tAnd (w_and (w_tval (w_ld F₇ ((put_ne (by decide)).trans ((put_ne (by decide)).trans ((put_ne (by decide)).trans ((e₂ _ (by decide)).trans rfl)))) (w_truthy ?_)))))
              cases s with
              | false =>
                simp only [Bool.false_eq_true, if_false, false_and, decide_false]
                exact w_or0 ⟨rfl, rfl⟩
              | true =>
                simp only [if_true, true_and]
                refine w_and (w_tCmp (w_ld F₇ rfl (w_Sub (w_cell cell₇ (w_str fun t => w_sd d7 rfl (w_eq (w_truthy ?_)))))))
                by_cases c2 : ltot [1] τ'.rows = τ'.goal
                · simp only [c2, BEq.rfl, if_true, decide_true]
                  exact w_and0 (by first | exact ⟨rfl, rfl⟩ | exact ⟨trivial, rfl⟩)
                · have : (ltot [1] τ'.rows == τ'.goal) = false := by simpa using c2
                  simp only [this, Bool.false_eq_true, if_false, c2, decide_false]
                  exact w_or0 ⟨rfl, rfl⟩
          · rintro b h' ⟨rfl, rfl⟩
            by_cases c1 : ltot [1] τ'.rows > τ'.goal ∨ (s = true ∧ ltot [1] τ'.rows = τ'.goal)
            · simp only [c1, decide_true, if_true]
              refine w_BinOp (w_ld F₇ rfl (w_ld F₇ rfl (w_ladd p1₇ p2₇ (by omega) fun h₈ k₈ p₈ => ⟨k₈, _, (zs.filter fun z => z.2.s == 1 && !hin τ'.held z.2.k) ++ (zs.filter fun z => z.2.s == 2 && !hin τ'.held z.2.k), rfl, Nat.le_refl _, ?_, ?_, ?_, ?_⟩)))
              · rw [List.map_append, ← ey1, ← ey2]; exact p₈
              · rw [List.map_append, f1, f2]; simp only [goesL, c1, if_true]
              · intro z hz; rcases List.mem_append.mp hz with m | m <;> exact (List.mem_filter.mp m).1
              · rw [ey1, List.length_map] at l1; rw [ey2, List.length_map] at l2; simp only [List.length_append]; omega
            · simp only [c1, decide_false, Bool.false_eq_true, if_false]
              refine w_BinOp (w_ld F₇ rfl (w_ld F₇ rfl (w_ladd p2₇ p1₇ (by omega) fun h₈ k₈ p₈ => ⟨k₈, _, (zs.filter fun z => z.2.s == 2 && !hin τ'.held z.2.k) ++ (zs.filter fun z => z.2.s == 1 && !hin τ'.held z.2.k), rfl, Nat.le_refl _, ?_, ?_, ?_, ?_⟩)))
              · rw [List.map_append, ← ey1, ← ey2]; exact p₈
              · rw [List.map_append, f1, f2]; simp only [goesL, c1, if_false]
              · intro z hz; rcases List.mem_append.mp hz with m | m <;> exact (List.mem_filter.mp m).1
              · rw [ey1, List.length_map] at l1; rw [ey2, List.length_map] at l2; simp only [List.length_append]; omega
        rintro v h₈ ⟨k₈, G, us, rfl, hG, pG, eus, hus, lus⟩
        have hLG : G ≠ h.objs.size := Nat.ne_of_gt (Nat.lt_of_lt_of_le (by obtain ⟨o, _, _, e, _⟩ := F₇.ns; exact Heap.lt_size e) hG)
        refine w_st (fk0 F₇ k₈) fun h₉ F₉ k₉ => ?_
        have x₉ := (x₇.kept0 k₈).frame k₉ hL
        have cell₉ := cell_kept (cell_kept cell₇ k₈ (by simp)) k₉ (by simp)
        have pG₉ := pG.kept k₉ (by simpa using hLG)
        have rows₉ : ∀ z ∈ zs, LRow h₉ z.1 z.2 := fun z hz => ((rows₇ z hz).kept k₈ (by simp)).kept k₉ (fun m => nX₃ z hz (List.mem_append_right _ (by rw [List.mem_singleton.mp m]; exact List.mem_cons_self)))
        have k29 : Kept (h.objs.size :: l.all) h₂ h₉ := ((((((k₃.nil.trans (k₄.mono (by simp))).trans (k₅.mono (by simp))).trans k₆.nil).trans (k₇.mono (by simp))).trans k₈.nil).trans (k₉.mono (by simp)))
        -- if goes == []
        refine w_cons (w_If (w_tCmp (w_ld F₉ rfl (w_List (w_items0 ⟨by simp, fun h₁₀ p₁₀ k₁₀ => w_eqNil (pG₉.kept k₁₀ (by simp)) p₁₀ (hu _) (w_truthy ?_)⟩)))))
        have F₁₀ := fk0 F₉ k₁₀
        have x₁₀ := x₉.kept0 k₁₀
        cases us with
        | nil =>
          have e0 : goesL τ' s = [] := eus.symm
          rw [e0] at el
          dsimp only at el
          simp only [List.map_nil, List.isEmpty_nil, if_true]
          exact w_cons (w_Return0 (q _ (fin ((k₂.trans k29).trans k₁₀.nil)) (el ▸ x₁₀.leave)))
        | cons z0 us =>
          have e0 : goesL τ' s = z0.2 :: us.map (·.2) := eus.symm
          rw [e0] at el
          dsimp only at el
          simp only [List.map_cons, List.isEmpty_cons, Bool.false_eq_true, if_false]
          have hz0 := hus z0 List.mem_cons_self
          have hgm := goes_mem (τ := τ') (s := s) (r := z0.2) (by rw [e0]; exact List.mem_cons_self)
          have hXL : ∀ a ∈ h.objs.size :: X, a < h₁₀.objs.size := fun a ha => x₁₀.xl F₁₀ hX a (List.mem_append_right _ ha)
          refine w_nil (w_cons (w_ExprAny (w_fcall B F₁₀.keep (by k_is) (by k_is) (w_items (w_ld F₁₀ ((put_ne (by decide)).trans ((put_ne (by decide)).trans ((put_ne (by decide)).trans ((put_ne (by decide)).trans ((e₂ _ (by decide)).trans rfl))))) (w_items (w_cell (cell_kept cell₉ k₁₀ (by simp)) (w_items (w_Sub (w_ld F₁₀ rfl (w_int fun t => w_litem (j := 0) (pG₉.kept k₁₀ (by simp)) rfl (by simp at lus ⊢; omega) rfl (w_items0 ⟨F₁₀.keep, c_law_away B F₁₀.keep room.deeper x₁₀ hXL ((rows₉ z0 hz0).kept k₁₀ (by simp)) (fun m => nX₃ z0 hz0 (List.mem_append_left _ m)) hgm.1 (by omega) fun h₁₁ k₁₁ x₁₁ => ?_⟩))))))))))))
          have F₁₁ := fk B F₁₀ k₁₁ hL x.lo
          have hc := cnt_away hgm.1 hgm.2
          refine w_nil ⟨⟨n, Nat.lt_succ_self n, lawAway τ' z0.2, x₁₁, g₂.away hgm.1 (by omega), el, by omega, cell_kept (cell_kept cell₉ k₁₀ (by simp)) k₁₁ (fun m => hC (List.mem_cons_of_mem _ m))⟩, ⟨_, F₁₁, fun y hy => ?_⟩, (k29.trans k₁₀.nil).trans (k₁₁.mono (by simp; exact fun a ha => .inr ha))⟩
          have hy' := hy
          simp only [List.mem_cons, List.not_mem_nil, or_false, not_or] at hy'
          exact (put_ne hy'.2.2.2).trans ((put_ne hy'.2.2.1).trans ((put_ne hy'.2.1).trans ((put_ne hy'.1).trans (e₂ y hy))))
  · simp only [cnd, decide_false, Bool.false_eq_true, if_false] at el ⊢
    exact w_nil (w_nil (q h₃ (fin (k₂.trans k₃.nil)) (el ▸ x₃.leave)))
end
end Mine
end

section
open PySem PySem.W PyProof.Rows PySem.Calls PySem.SeqAt
namespace Mine
theorem cnV_set0 (n : Cn) (t : Nat → Tok) (i : Int) (u : Tok) : (cnV n t).set 0 (.int i u) = cnV { n with rh := i } (fun j => if j = 0 then u else t j) := rfl
theorem cnV_set1 (n : Cn) (t : Nat → Tok) (i : Int) (u : Tok) : (cnV n t).set 1 (.int i u) = cnV { n with oh := i } (fun j => if j = 1 then u else t j) := rfl
theorem cnV_set2 (n : Cn) (t : Nat → Tok) (i : Int) (u : Tok) : (cnV n t).set 2 (.int i u) = cnV { n with ms := i } (fun j => if j = 2 then u else t j) := rfl
theorem cnV_set3 (n : Cn) (t : Nat → Tok) (i : Int) (u : Tok) : (cnV n t).set 3 (.int i u) = cnV { n with rs := i } (fun j => if j = 3 then u else t j) := rfl
theorem cnV_set4 (n : Cn) (t : Nat → Tok) (i : Int) (u : Tok) : (cnV n t).set 4 (.int i u) = cnV { n with os := i } (fun j => if j = 4 then u else t j) := rfl

section
variable {prog : Program} {w : World} {c : Cx} {base h : Heap} {A : Around} {R : Result → Heap → Prop} {E : Value → Heap → Prop} {env : Env} {l : LA} {X : List Addr} {τ : LSt}

/-- _law_row(rows, key) -/
theorem s_row {xp rp kp' pos : Pos} {Q : Value → Heap → Prop} {rl : Addr} {Y : List Addr} {rs : List LR} {k : Int} {kt : Tok} {L : Addr} {m : Str → Option Value} (B : Base w base) (room : Room A 1) (F : Fr base L h m) (x : RowsAt h rl Y rs) (hl : rs.length ≤ 1000)
    (y : W prog w c A (eval (.Name "rows" rp) env) (fun v h' => v = .ref rl ∧ h' = h) E h)
    (yk : W prog w c A (eval (.Name "key" kp') env) (fun v h' => v = .int k kt ∧ h' = h) E h)
    (q : ∀ h' V, Kept [] h h' → FoundV h' Y V (lfind rs k) → Q V h')
    (hk : env.scope.kind = .function := by rfl) (hx : env.kindOf ("_law_row" : Str) = some .globalImplicit := by rfl) (hg : env.globals = mainGlobals := by rfl)
    (hc : eval (.Call (.Name "_law_row" xp) [.Name "rows" rp, .Name "key" kp'] [] pos) env = (do callWith pos (← eval (.Name "_law_row" xp) env) [] (backTo pos (starEach [.Name "rows" rp, .Name "key" kp'] env)) (backToKw pos (keywordEach [] env))) := by rfl)
    (he : starEach [.Name "rows" rp, .Name "key" kp'] env = (false, eval (.Name "rows" rp) env) :: starEach [.Name "key" kp'] env := by rfl) (he2 : starEach [.Name "key" kp'] env = (false, eval (.Name "key" kp') env) :: starEach [] env := by rfl)
    (hplain : (backTo pos (starEach [.Name "key" kp'] env)).any (·.1) = false := by rfl) :
    W prog w c A (eval (.Call (.Name "_law_row" xp) [.Name "rows" rp, .Name "key" kp'] [] pos) env) Q E h := by
  refine w_fcall B F.keep (by k_is) (by k_is) (w_items (y.post fun v h₁ ⟨e1, e2⟩ => ?_) he) hk hx hg (by decide) hc he hplain
  subst e1 e2
  refine w_items (yk.post fun v h₂ ⟨e1, e2⟩ => ?_) he2
  subst e1 e2
  exact w_items0 ⟨F.keep, c_law_row B F.keep room x hl q⟩

theorem c_law_get {k : Int} {kt : Tok} (B : Base w base) (kp : In0 base h) (room : Room A 2) (x : LawAt prog w h l X τ) (hX : ∀ a ∈ X, a < h.objs.size) (g : LGood τ)
    (q : ∀ h' V, Kept l.all h h' → LawAt prog w h' l X (lawGet τ k).1 → Val V (lawGet τ k).2 → R (.ok (.ret V)) h') : C prog w c A (.call (.ref 318) ⟨[.ref l.rl, .ref l.sd, .int k kt], []⟩) R h := by
  refine cf [("rows", .ref l.rl), ("state", .ref l.sd), ("key", .int k kt)] B kp room (by k_is) (by k_is) (fun _ _ => BindsTo.of_eq rfl) (locs rfl) (fun h₁ F k₁ => ?_)
  have hL := fL x.lt
  have x₁ := x.enter k₁
  have hrl : l.rl ∈ l.all ++ (h.objs.size :: X) := List.mem_append_left _ l.m1
  have g8 := g.len
  refine w_cons (w_AssignName (s_row B room.deeper F x₁.rows (by omega) (w_ld F rfl ⟨rfl, rfl⟩) (w_ld F rfl ⟨rfl, rfl⟩) fun h₂ V k₂ fv => ?_))
  refine w_st (fk0 F k₂) fun h₃ F₃ k₃ => ?_
  have x₃ := (x₁.kept0 k₂).frame k₃ hL
  have fv₃ := fv.kept k₃ (fun a ha => by rw [List.mem_singleton.mp ha]; exact List.mem_append_right _ List.mem_cons_self)
  have k13 : Kept (l.all ++ [h.objs.size]) h h₃ := (k₁.nil.trans k₂.nil).trans (k₃.mono inr)
  obtain ⟨tm, tg, d⟩ := x₃.st
  obtain ⟨ct, ci⟩ := x₃.cn
  refine w_cons (w_If (w_tAnd (w_or (w_tCmp (w_ld F₃ rfl (w_none (w_isNone (w_truthy ?_))))))))
  cases eo : lfind τ.rows k with
  | none =>
    rw [eo] at fv₃
    have : V = .none := fv₃
    subst this
    have e0 : (Value.none == Value.none) = true := rfl
    first | refine if_yes (by first | rfl | simp only [e0]) ?_ | simp only [e0, if_true]
    refine w_cons (w_AugSub (w_Sub (w_ld F₃ rfl (w_str fun t => w_sd d rfl (w_int fun t => w_lgetI (j := 2) ci rfl (by simp) rfl (w_int fun t => w_iadd fun t' => w_lset (j := 2) ci rfl (by simp) (by simp) fun h₄ i₄ k₄ => ?_))))))
    have x₄ := x₃.setCn k₄ ⟨_, by rw [cnV_set2] at i₄; exact i₄⟩
    refine w_cons (w_Return (w_none (q h₄ .none (Kept.fin (k13.trans (k₄.mono fun a ha => inl a (m1 l.m4 a ha)))) ?_ ?_)))
    · simp only [lawGet, eo]; exact x₄.leave
    · simp only [lawGet, eo]; exact rfl
  | some r =>
    rw [eo] at fv₃
    obtain ⟨b, rfl, lr, hb⟩ := fv₃
    obtain ⟨hrm, hrk⟩ := lfind_mem eo
    have hrg := g.rg r hrm
    have e0 : (Value.ref b == Value.none) = false := rfl
    first | refine if_no (by first | rfl | simp only [e0]) ?_ | simp only [e0, Bool.false_eq_true, if_false]
    refine w_or (w_tCmp (w_Sub (w_ld F₃ rfl (w_int fun t => w_row0 lr fun t => w_int fun u => w_gt (w_truthy ?_)))))
    by_cases c1 : r.s > 2
    · first | refine if_yes (by first | rfl | simp only [c1, decide_true]) ?_ | simp only [c1, decide_true, if_true]
      refine w_cons (w_AugSub (w_Sub (w_ld F₃ rfl (w_str fun t => w_sd d rfl (w_int fun t => w_lgetI (j := 2) ci rfl (by simp) rfl (w_int fun t => w_iadd fun t' => w_lset (j := 2) ci rfl (by simp) (by simp) fun h₄ i₄ k₄ => ?_))))))
      have x₄ := x₃.setCn k₄ ⟨_, by rw [cnV_set2] at i₄; exact i₄⟩
      refine w_cons (w_Return (w_none (q h₄ .none (Kept.fin (k13.trans (k₄.mono fun a ha => inl a (m1 l.m4 a ha)))) ?_ ?_)))
      · (first | refine if_yes (by first | rfl | simp only [lawGet, eo, c1]) ?_ | simp only [lawGet, eo, c1, if_true]); exact x₄.leave
      · (first | refine if_yes (by first | rfl | simp only [lawGet, eo, c1]) ?_ | simp only [lawGet, eo, c1, if_true]); exact rfl
    · first | refine if_no (by first | rfl | simp only [c1, decide_false]) ?_ | simp only [c1, decide_false, Bool.false_eq_true, if_false]
      refine w_or0 ?_
      first | refine if_no (by rfl) ?_ | simp only [Bool.false_eq_true, if_false]
      have hbca : b ∉ l.all := fun m => hb (List.mem_append_left _ m)
      refine w_nil (w_cons (W.post (Q := fun f h' => f = .next ∧ LawAt prog w h' l (h.objs.size :: X) { τ with cn := if r.s = 1 then { τ.cn with rh := τ.cn.rh + 1 } else { τ.cn with oh := τ.cn.oh + 1 } } ∧ Kept [l.ca] h₃ h') (w_AugSub (w_Sub (w_ld F₃ rfl (w_str fun t => w_sd d rfl (w_BinOp (w_Sub (w_ld F₃ rfl (w_int fun t => w_row0 lr fun t => w_int fun u => w_sub fun t => ?_)))))))) ?_))
      · by_cases c2 : r.s = 1
        · refine w_lgetI (j := 0) ci (by omega) (by simp) rfl (w_int fun t => w_iadd fun t' => w_lset (j := 0) ci (by omega) (by simp) (by simp) fun h₄ i₄ k₄ => ⟨rfl, ?_, k₄⟩)
          rw [if_pos c2]
          exact x₃.setCn k₄ ⟨_, by rw [cnV_set0] at i₄; exact i₄⟩
        · refine w_lgetI (j := 1) ci (by omega) (by simp) rfl (w_int fun t => w_iadd fun t' => w_lset (j := 1) ci (by omega) (by simp) (by simp) fun h₄ i₄ k₄ => ⟨rfl, ?_, k₄⟩)
          rw [if_neg c2]
          exact x₃.setCn k₄ ⟨_, by rw [cnV_set1] at i₄; exact i₄⟩
      rintro f h₄ ⟨rfl, x₄, k₄⟩
      have F₄ := fk B F₃ (k₄.mono (m1 l.m4)) hL x.lo
      have lr₄ := lr.kept k₄ (by simp; intro e; exact hbca (e ▸ l.m4))
      -- rows.remove(row)
      refine w_cons (w_ExprAny (s_removeRow (room.deeper (m := 1)).u1 (w_ld F₄ rfl ⟨_, _, _, rfl, x₄.rows, hrl, by dsimp only; omega, w_ld F₄ rfl ⟨b, r, rfl, x₄.rows, lr₄, hrm, fun h₅ k₅ rows₅ => ?_⟩⟩)))
      have x₅ := x₄.setRows k₅ rows₅
      have F₅ := fk B F₄ (k₅.mono (m1 l.m1)) hL x.lo
      have lr₅ := lr₄.kept k₅ (by simp; intro e; exact hbca (e ▸ l.m1))
      have hlen : (τ.rows.erase r).length ≤ 8 := Nat.le_trans (erase_sub _ _).length_le g8
      refine w_cons (w_ExprAny (s_appendRow (w_ld F₅ rfl ⟨_, _, _, rfl, x₅.rows, hrl, by dsimp only; omega, x₅.xl F₅ hX, s_newRow (r := ⟨2, k, r.z, r.v⟩)
        (w_int fun t => ⟨⟨t, rfl⟩, rfl⟩) (w_ld F₅ rfl ⟨⟨kt, rfl⟩, rfl⟩)
        (w_Sub (w_ld F₅ rfl (w_int fun t => w_row2 lr₅ fun t => ⟨⟨t, rfl⟩, rfl⟩)))
        (w_Sub (w_ld F₅ rfl (w_int fun t => w_row3 lr₅ fun V hV => ⟨hV, rfl⟩)))
        fun h₆ k₆ lr' => ⟨_, _, rfl, k₆, Nat.le_refl _, lr', fun h₇ k₇ rows₇ => ?_⟩⟩)))
      have x₇ := (x₅.kept0 k₆).setRows k₇ rows₇
      have F₇ := fk B (fk0 F₅ k₆) (k₇.mono (m1 l.m1)) hL x.lo
      have lr₇ := (lr₅.kept k₆ (by simp)).kept k₇ (by simp; intro e; exact hbca (e ▸ l.m1))
      refine w_cons (w_Return (w_Sub (w_ld F₇ rfl (w_int fun t => w_row3 lr₇ fun V hV => q h₇ V ?_ ?_ ?_))))
      · exact Kept.fin ((((k13.trans (k₄.mono fun a ha => inl a (m1 l.m4 a ha))).trans (k₅.mono fun a ha => inl a (m1 l.m1 a ha))).trans k₆.nil).trans (k₇.mono fun a ha => inl a (m1 l.m1 a ha)))
      · (first | refine if_no (by first | rfl | simp only [lawGet, eo, c1]) ?_ | simp only [lawGet, eo, c1, if_false]); exact x₇.leave
      · (first | refine if_no (by first | rfl | simp only [lawGet, eo, c1]) ?_ | simp only [lawGet, eo, c1, if_false]); exact hV

theorem c_law_drop {k : Int} {kt : Tok} (B : Base w base) (kp : In0 base h) (room : Room A 2) (x : LawAt prog w h l X τ) (hX : ∀ a ∈ X, a < h.objs.size) (g : LGood τ)
    (q : ∀ h', Kept l.all h h' → LawAt prog w h' l X (lawDrop τ k).1 → R (.ok (.ret (.bool (lawDrop τ k).2))) h') : C prog w c A (.call (.ref 332) ⟨[.ref l.rl, .ref l.sd, .int k kt], []⟩) R h := by
  refine cf [("rows", .ref l.rl), ("state", .ref l.sd), ("key", .int k kt)] B kp room (by k_is) (by k_is) (fun _ _ => BindsTo.of_eq rfl) (locs rfl) (fun h₁ F k₁ => ?_)
  have hL := fL x.lt
  have x₁ := x.enter k₁
  have hrl : l.rl ∈ l.all ++ (h.objs.size :: X) := List.mem_append_left _ l.m1
  have g8 := g.len
  have gh := g.hlen
  refine w_cons (w_AssignName (s_row B room.deeper F x₁.rows (by omega) (w_ld F rfl ⟨rfl, rfl⟩) (w_ld F rfl ⟨rfl, rfl⟩) fun h₂ V k₂ fv => ?_))
  refine w_st (fk0 F k₂) fun h₃ F₃ k₃ => ?_
  have x₃ := (x₁.kept0 k₂).frame k₃ hL
  have fv₃ := fv.kept k₃ (fun a ha => by rw [List.mem_singleton.mp ha]; exact List.mem_append_right _ List.mem_cons_self)
  have k13 : Kept (l.all ++ [h.objs.size]) h h₃ := (k₁.nil.trans k₂.nil).trans (k₃.mono inr)
  obtain ⟨tm, tg, d⟩ := x₃.st
  obtain ⟨lo, cl, eh, dh⟩ := x₃.held
  have hcl : cl.length = τ.held.length := by rw [← eh]; simp
  -- state['held'].pop(key, 0)
  refine w_cons (w_ExprAny (w_pop2 (w_Sub (w_ld F₃ rfl (w_str fun t => w_sd d rfl ⟨_, rfl, lo, ⟨_, dh⟩, w_ld F₃ rfl (w_int fun t => ⟨k, kt, _, rfl, dh, by simp; omega, fun h₄ d₄ k₄ => ?_⟩)⟩)))))
  have x₄ := x₃.setHeld k₄ (held_wo lo eh d₄)
  have F₄ := fk B F₃ (k₄.mono (m1 l.m3)) hL x.lo
  have fv₄ := fv₃.kept k₄ (fun a ha => List.mem_append_left _ (m1 l.m3 a ha))
  have k14 := k13.trans (k₄.mono fun a ha => inl a (m1 l.m3 a ha))
  refine w_cons (w_If (w_tCmp (w_ld F₄ rfl (w_none (w_isNotNone (w_truthy ?_))))))
  cases eo : lfind τ.rows k with
  | none =>
    rw [eo] at fv₄
    have : V = .none := fv₄
    subst this
    have e0 : (!(Value.none == Value.none)) = false := rfl
    first | refine if_no (by first | rfl | simp only [e0]) ?_ | simp only [e0, Bool.false_eq_true, if_false]
    refine w_nil (w_cons (w_Return (w_And2 (w_Cmp (w_ld F₄ rfl (w_none (w_isNotNone (w_truthy ?_))))))))
    first | refine if_no (by first | rfl | simp only [e0]) ?_ | simp only [e0, Bool.false_eq_true, if_false]
    have := q h₄ (Kept.fin k14)
    simp only [lawDrop, eo, isHere] at this
    exact this x₄.leave
  | some r =>
    rw [eo] at fv₄
    obtain ⟨b, rfl, lr, hb⟩ := fv₄
    obtain ⟨hrm, hrk⟩ := lfind_mem eo
    have e0 : (!(Value.ref b == Value.none)) = true := rfl
    have hbca : b ∉ l.all := fun m => hb (List.mem_append_left _ m)
    first | refine if_yes (by first | rfl | simp only [e0]) ?_ | simp only [e0, if_true]
    refine w_cons (w_ExprAny (s_removeRow (room.deeper (m := 1)).u1 (w_ld F₄ rfl ⟨_, _, _, rfl, x₄.rows, hrl, by dsimp only; omega, w_ld F₄ rfl ⟨b, r, rfl, x₄.rows, lr, hrm, fun h₅ k₅ rows₅ => ?_⟩⟩)))
    have x₅ := x₄.setRows k₅ rows₅
    have F₅ := fk B F₄ (k₅.mono (m1 l.m1)) hL x.lo
    have lr₅ := lr.kept k₅ (by simp; intro e; exact hbca (e ▸ l.m1))
    refine w_nil (w_cons (w_Return (w_And2 (w_Cmp (w_ld F₅ rfl (w_none (w_isNotNone (w_truthy ?_))))))))
    first | refine if_yes (by first | rfl | simp only [e0]) ?_ | simp only [e0, if_true]
    have := q h₅ (Kept.fin (k14.trans (k₅.mono fun a ha => inl a (m1 l.m1 a ha))))
    simp only [lawDrop, eo, isHere] at this
    exact w_Cmp (w_Sub (w_ld F₅ rfl (w_int fun t => w_row0 lr₅ fun t => w_int fun u => w_lt (this x₅.leave))))
end
end Mine
end

section
open PySem PySem.W PyProof.Rows PySem.Calls PySem.SeqAt
namespace Mine
theorem sum_nn : ∀ {l : List LR}, (∀ r ∈ l, 0 ≤ r.z ∧ r.z ≤ 5) → 0 ≤ (l.map (·.z)).sum ∧ (l.map (·.z)).sum ≤ l.length * 5
  | [], _ => by simp
  | r :: l, h => by
    have := sum_nn (l := l) fun x hx => h x (List.mem_cons_of_mem _ hx)
    have := h r List.mem_cons_self
    simp only [List.map_cons, List.sum_cons, List.length_cons]; omega
theorem LGood.tot {τ : LSt} (g : LGood τ) (ss : List Int) : 0 ≤ ltot ss τ.rows ∧ ltot ss τ.rows ≤ 40 := by
  have h1 := sum_nn (l := τ.rows.filter fun r => ss.any (· == r.s)) fun r hr => g.sz.1 r (List.mem_filter.mp hr).1
  have h2 := List.length_filter_le (fun r : LR => ss.any (· == r.s)) τ.rows
  have := g.len
  unfold ltot; omega
theorem farOf_b {z a b : Int} (hz : 1 ≤ z ∧ z ≤ 5) (ha : 0 ≤ a ∧ a ≤ 40) (hb : 0 ≤ b ∧ b ≤ 40) : 0 ≤ farOf z a b ∧ farOf z a b ≤ 200 := by
  unfold farOf
  split
  · rename_i h
    have h1 : 0 ≤ b / a := Int.ediv_nonneg hb.1 ha.1
    have h2 : b / a ≤ b := Int.ediv_le_self _ hb.1
    have h3 : 0 ≤ b / a ∧ b / a ≤ 40 := ⟨h1, by omega⟩
    constructor
    · exact Int.mul_nonneg (by omega) h1
    · calc z * (b / a) ≤ 5 * (b / a) := Int.mul_le_mul_of_nonneg_right hz.2 h1
        _ ≤ 200 := by omega
  · omega

section
variable {prog : Program} {w : World} {c : Cx} {base h : Heap} {A : Around} {R : Result → Heap → Prop} {E : Value → Heap → Prop} {env : Env} {l : LA} {X : List Addr} {τ : LSt}

/-- how far the goal moves -/
abbrev ownOther (τ : LSt) : Int × Int → Prop := fun p => p = (ltot [3] τ.rows, ltot [4] τ.rows) ∨ p = (ltot [4] τ.rows, ltot [3] τ.rows)

theorem c_law_put {k z : Int} {kt zt : Tok} {V : Value} {v : Option Int} (B : Base w base) (kp : In0 base h) (room : Room A 3) (x : LawAt prog w h l X τ) (hX : ∀ a ∈ X, a < h.objs.size) (g : LGood τ) (hk : 0 ≤ k ∧ k < 8) (hz : 1 ≤ z ∧ z ≤ 5) (hV : Val V v)
    (q : ∀ h', Kept l.all h h' → LawAt prog w h' l X (lawPut τ k v z).1 → R (.ok (.ret (.bool (lawPut τ k v z).2))) h') : C prog w c A (.call (.ref 325) ⟨[.ref l.rl, .ref l.sd, .int k kt, V, .int z zt], []⟩) R h := by
  refine cf [("rows", .ref l.rl), ("state", .ref l.sd), ("key", .int k kt), ("value", V), ("size", .int z zt)] B kp room (by k_is) (by k_is) (fun _ _ => BindsTo.of_eq rfl) (locs rfl) (fun h₁ F k₁ => ?_)
  have hL := fL x.lt
  have x₁ := x.enter k₁
  have hrl : l.rl ∈ l.all ++ (h.objs.size :: X) := List.mem_append_left _ l.m1
  have g8 := g.len
  have hXl : ∀ {h' : Heap} {m : Str → Option Value}, Fr base h.objs.size h' m → ∀ a ∈ h.objs.size :: X, a < h'.objs.size := fun {h' m} F' a ha => by
    have hL' : h.objs.size < h'.objs.size := by obtain ⟨o, _, _, e, _⟩ := F'.ns; exact Heap.lt_size e
    rcases List.mem_cons.mp ha with rfl | ha
    · exact hL'
    · exact Nat.lt_trans (hX a ha) hL'
  have fvk : ∀ {h' h'' : Heap} {V' : Value} {o : Option LR} {S : List Addr}, FoundV h' (l.all ++ (h.objs.size :: X)) V' o → Kept S h' h'' → (∀ a ∈ S, a ∈ l.all ∨ a = h.objs.size) → FoundV h'' (l.all ++ (h.objs.size :: X)) V' o := fun fv k hS => fv.kept k fun a ha => by
    rcases hS a ha with m | rfl
    · exact List.mem_append_left _ m
    · exact List.mem_append_right _ List.mem_cons_self
  -- row = _law_row(rows, key)
  refine w_cons (w_AssignName (s_row B room.deeper F x₁.rows (by omega) (w_ld F rfl ⟨rfl, rfl⟩) (w_ld F rfl ⟨rfl, rfl⟩) fun h₂ V' k₂ fv => ?_))
  refine w_st (fk0 F k₂) fun h₃ F₃ k₃ => ?_
  have x₃ := (x₁.kept0 k₂).frame k₃ hL
  have fv₃ := fvk fv k₃ (fun a ha => .inr (List.mem_singleton.mp ha))
  have k13 : Kept (l.all ++ [h.objs.size]) h h₃ := (k₁.nil.trans k₂.nil).trans (k₃.mono inr)
  obtain ⟨tm, tg, d⟩ := x₃.st
  -- if size > state['most']
  refine w_cons (w_If (w_tCmp (w_ld F₃ rfl (w_Sub (w_ld F₃ rfl (w_str fun t => w_sd d rfl (w_gt (w_truthy ?_))))))))
  by_cases c1 : z > τ.most
  · simp only [c1, decide_true, if_true]
    refine w_cons (w_ExprAny (w_fcall B F₃.keep (by k_is) (by k_is) (w_items (w_ld F₃ rfl (w_items (w_ld F₃ rfl (w_items (w_ld F₃ rfl (w_items0 ⟨F₃.keep, c_law_drop B F₃.keep room.deeper x₃ (hXl F₃) g fun h₄ k₄ x₄ => ?_⟩))))))))) 
    refine w_cons (w_Return (w_bool ?_))
    have := q h₄ (Kept.fin (k13.trans (k₄.mono inl)))
    simp only [lawPut, c1, if_true] at this
    exact this x₄.leave
  simp only [c1, decide_false, Bool.false_eq_true, if_false]
  have b3 := g.tot [3]
  have b4 := g.tot [4]
  -- own, other = ..
  refine w_nil (w_cons (w_AssignTuple (W.post (Q := fun v' h' => ∃ p t u b, ownOther τ p ∧ ((∃ r, lfind τ.rows k = some r ∧ r.s = 4) → p = (ltot [4] τ.rows, ltot [3] τ.rows)) ∧ ((∃ r, lfind τ.rows k = some r ∧ r.s ≠ 4) → p = (ltot [3] τ.rows, ltot [4] τ.rows)) ∧ v' = .ref b ∧ PT h' b [.int p.1 t, .int p.2 u] ∧ Kept [] h₃ h') (w_IfExp (W.post (Q := fun b h' => h' = h₃ ∧ ((∃ r, lfind τ.rows k = some r ∧ r.s = 4) → b = false) ∧ ((∃ r, lfind τ.rows k = some r ∧ r.s ≠ 4) → b = true)) (w_tAnd (w_or (w_tCmp (w_ld F₃ rfl (w_none (w_isNone (w_truthy ?_))))))) ?_)) ?_)))
  · cases eo : lfind τ.rows k with
    | none =>
      rw [eo] at fv₃
      have : V' = .none := fv₃
      subst this
      have e0 : (Value.none == Value.none) = true := rfl
      simp only [e0, if_true]
      exact ⟨by trivial, (fun ⟨r, e, _⟩ => by cases e), fun _ => by trivial⟩
    | some r =>
      rw [eo] at fv₃
      obtain ⟨b, rfl, lr, hb⟩ := fv₃
      have e0 : (Value.ref b == Value.none) = false := rfl
      simp only [e0, Bool.false_eq_true, if_false]
      refine w_or (w_tCmp (w_Sub (w_ld F₃ rfl (w_int fun t => w_row0 lr fun t => w_int fun u => w_ne (w_truthy ?_)))))
      by_cases c4 : r.s = 4
      · have : (r.s != 4) = false := by simp [c4]
        simp only [this, Bool.false_eq_true, if_false]
        exact w_or0 ⟨rfl, fun _ => rfl, fun ⟨r', e, n⟩ => absurd c4 (by rw [Option.some.inj e]; exact n)⟩
      · have : (r.s != 4) = true := by simpa using c4
        simp only [this, if_true]
        exact ⟨by trivial, fun ⟨r', e, n⟩ => absurd n (by rw [← Option.some.inj e]; exact c4), fun _ => by trivial⟩
  · rintro b h' ⟨rfl, hb1, hb2⟩
    cases b with
    | true =>
      try simp only [if_true]
      refine w_Tuple (w_items (s_total B room.deeper F₃ x₃.rows g.sz (w_ld F₃ rfl ⟨rfl, rfl⟩) (s_tup1 _ fun h' d vs p i k => ⟨d, vs, rfl, p, i, k⟩) fun h₄ t₄ k₄ => w_items (s_total B room.deeper (fk0 F₃ k₄) (x₃.kept0 k₄).rows g.sz (w_ld (fk0 F₃ k₄) rfl ⟨rfl, rfl⟩) (s_tup1 _ fun h' d vs p i k => ⟨d, vs, rfl, p, i, k⟩) fun h₅ t₅ k₅ => w_items0 ⟨by simp, fun h₆ p₆ k₆ => ?_⟩)))
      exact ⟨_, _, _, _, .inl rfl, (fun e => by cases hb1 e), fun _ => rfl, rfl, p₆, (k₄.trans k₅).trans k₆⟩
    | false =>
      try simp only [Bool.false_eq_true, if_false]
      refine w_Tuple (w_items (s_total B room.deeper F₃ x₃.rows g.sz (w_ld F₃ rfl ⟨rfl, rfl⟩) (s_tup1 _ fun h' d vs p i k => ⟨d, vs, rfl, p, i, k⟩) fun h₄ t₄ k₄ => w_items (s_total B room.deeper (fk0 F₃ k₄) (x₃.kept0 k₄).rows g.sz (w_ld (fk0 F₃ k₄) rfl ⟨rfl, rfl⟩) (s_tup1 _ fun h' d vs p i k => ⟨d, vs, rfl, p, i, k⟩) fun h₅ t₅ k₅ => w_items0 ⟨by simp, fun h₆ p₆ k₆ => ?_⟩)))
      exact ⟨_, _, _, _, .inr rfl, fun _ => rfl, (fun e => by cases hb2 e), rfl, p₆, (k₄.trans k₅).trans k₆⟩
  rintro v' h₄ ⟨⟨own, other⟩, t, u, b4', hoo, ho4, ho3, rfl, p₄, k₄⟩
  dsimp only at p₄
  have hbd : (0 ≤ own ∧ own ≤ 40) ∧ 0 ≤ other ∧ other ≤ 40 := by
    rcases hoo with e | e <;> (simp only [Prod.mk.injEq] at e; rw [e.1, e.2]; exact ⟨by assumption, by assumption⟩)
  refine w_unpack2 room.hand p₄ fun h₅ k₅ => w_st (fk0 (fk0 F₃ k₄) k₅) fun h₆ F₆ k₆ => w_st F₆ fun h₇ F₇ k₇ => ?_
  have x₇ := (((x₃.kept0 k₄).kept0 k₅).frame k₆ hL).frame k₇ hL
  have fv₇ := fvk (fvk (fvk fv₃ (k₄.trans k₅) (by simp)) k₆ (fun a ha => .inr (List.mem_singleton.mp ha))) k₇ (fun a ha => .inr (List.mem_singleton.mp ha))
  have k17 : Kept (l.all ++ [h.objs.size]) h h₇ := (((k13.trans k₄.nil).trans k₅.nil).trans (k₆.mono inr)).trans (k₇.mono inr)
  -- far = ..
  refine w_cons (w_AssignName (w_BinOp (w_ld F₇ rfl (W.post (Q := fun v' h' => h' = h₇ ∧ ∃ t, v' = .int (if own > 0 ∧ other > own then other / own else 1) t) (w_IfExp (w_tAnd (w_and (w_tCmp (w_ld F₇ rfl (w_int fun t => w_gt (w_truthy ?_)))))) ) ?_))))
  · by_cases c2 : own > 0
    · simp only [c2, decide_true, if_true, true_and]
      refine w_and (w_tCmp (w_ld F₇ rfl (w_ld F₇ rfl (w_gt (w_truthy ?_)))))
      by_cases c3 : other > own
      · simp only [c3, decide_true, if_true]
        refine w_and0 ?_
        try simp only [if_true]
        exact w_BinOp (w_ld F₇ rfl (w_ld F₇ rfl (w_div c2 (by omega) fun t => ⟨rfl, t, rfl⟩)))
      · simp only [c3, decide_false, Bool.false_eq_true, if_false]
        exact w_int fun t => ⟨rfl, t, rfl⟩
    · simp only [c2, decide_false, Bool.false_eq_true, if_false, false_and]
      exact w_int fun t => ⟨rfl, t, rfl⟩
  rintro v' h' ⟨rfl, t', rfl⟩
  refine w_mul (by omega) fun tf => ?_
  have hfar : z * (if own > 0 ∧ other > own then other / own else 1) = farOf z own other := rfl
  rw [hfar]
  have hfb := farOf_b hz hbd.1 hbd.2
  refine w_st F₇ fun h₈ F₈ k₈ => ?_
  have x₈ := x₇.frame k₈ hL
  have fv₈ := fvk fv₇ k₈ (fun a ha => .inr (List.mem_singleton.mp ha))
  have k18 := k17.trans (k₈.mono inr)
  -- the rest by what was found
  cases eo : lfind τ.rows k with
  | none =>
    rw [eo] at fv₈
    have : V' = .none := fv₈
    subst this
    have e0 : (Value.none == Value.none) = true := rfl
    have e1 : (!(Value.none == Value.none)) = false := rfl
    refine w_cons (w_If (w_tAnd (w_and (w_tCmp (w_ld F₈ rfl (w_none (w_isNotNone (w_truthy ?_))))))))
    simp only [e1, Bool.false_eq_true, if_false]
    refine w_nil (w_cons (w_If (w_tCmp (w_ld F₈ rfl (w_none (w_isNotNone (w_truthy ?_)))))))
    simp only [e1, Bool.false_eq_true, if_false]
    refine w_nil (w_cons (w_ExprAny (w_fcall B F₈.keep (by k_is) (by k_is) (w_items (w_ld F₈ rfl (w_items (w_ld F₈ rfl (w_items (w_ld F₈ rfl (w_items (w_And2 (w_Cmp (w_ld F₈ rfl (w_none (w_isNotNone (w_truthy ?_)))))))))))))))) 
    simp only [e1, Bool.false_eq_true, if_false]
    refine w_items0 ⟨F₈.keep, c_law_out B F₈.keep room.deeper x₈ (hXl F₈) g fun h₉ k₉ x₉ => ?_⟩
    have F₉ := fk B F₈ k₉ hL x.lo
    have g₉ := g.out z false
    have keys := lout_keys (k := k) (z := z) (s := false) (τ.rows.length + 1) (τ := τ) (lfind_none eo)
    have l9 := g₉.len
    refine w_cons (w_ExprAny (s_appendRow (w_ld F₉ rfl ⟨_, _, _, rfl, x₉.rows, hrl, by omega, x₉.xl F₉ hX, s_newRow (r := ⟨1, k, z, v⟩)
      (w_IfExp (w_tCmp (w_ld F₉ rfl (w_none (w_isNone (w_truthy (by simp only [e0, if_true]; exact w_int fun t => ⟨⟨t, rfl⟩, rfl⟩))))))) (w_ld F₉ rfl ⟨⟨kt, rfl⟩, rfl⟩) (w_ld F₉ rfl ⟨⟨zt, rfl⟩, rfl⟩) (w_ld F₉ rfl ⟨hV, rfl⟩)
      fun h₁₀ k₁₀ lr' => ⟨_, _, rfl, k₁₀, Nat.le_refl _, lr', fun h₁₁ k₁₁ rows₁₁ => ?_⟩⟩)))
    have x₁₁ := (x₉.kept0 k₁₀).setRows k₁₁ rows₁₁
    have F₁₁ := fk B (fk0 F₉ k₁₀) (k₁₁.mono (m1 l.m1)) hL x.lo
    have g₁₁ := g₉.addRow (r := ⟨1, k, z, v⟩) keys ⟨hk, hz, by dsimp only; omega, by dsimp only; omega⟩
    refine w_cons (w_ExprAny (w_fcall B F₁₁.keep (by k_is) (by k_is) (w_items (w_ld F₁₁ rfl (w_items (w_ld F₁₁ rfl (w_items0 ⟨F₁₁.keep, c_law_cut B F₁₁.keep room.deeper x₁₁ (hXl F₁₁) g₁₁ fun h₁₂ k₁₂ x₁₂ => ?_⟩))))))) 
    refine w_cons (w_Return (w_bool ?_))
    have := q h₁₂ (Kept.fin ((((k18.trans (k₉.mono inl)).trans k₁₀.nil).trans (k₁₁.mono fun a ha => inl a (m1 l.m1 a ha))).trans (k₁₂.mono inl)))
    simp only [lawPut, c1, if_false, eo] at this
    exact this x₁₂.leave
  | some r =>
    rw [eo] at fv₈
    obtain ⟨b, rfl, lr, hb⟩ := fv₈
    obtain ⟨hrm, hrk⟩ := lfind_mem eo
    have hrg := g.rg r hrm
    have e0 : (Value.ref b == Value.none) = false := rfl
    have e1 : (!(Value.ref b == Value.none)) = true := rfl
    have hbl : b ∉ l.all := fun m => hb (List.mem_append_left _ m)
    have hfr : farOf z own other = if r.s = 4 then farOf z (ltot [4] τ.rows) (ltot [3] τ.rows) else farOf z (ltot [3] τ.rows) (ltot [4] τ.rows) := by
      by_cases c4 : r.s = 4
      · have e := ho4 ⟨r, eo, c4⟩; simp only [Prod.mk.injEq] at e; rw [if_pos c4, e.1, e.2]
      · have e := ho3 ⟨r, eo, c4⟩; simp only [Prod.mk.injEq] at e; rw [if_neg c4, e.1, e.2]
    have mp := g.mp
    have gp := g.gp
    obtain ⟨τ1, hτ1⟩ : ∃ τ1 : LSt, τ1 = if r.s > 2 then
          { τ with cn := (if r.s = 3 then { τ.cn with rs := τ.cn.rs + 1 } else { τ.cn with os := τ.cn.os + 1 }), goal := if r.s = 3 then min τ.most (τ.goal + farOf z own other) else max 0 (τ.goal - farOf z own other) }
        else τ := ⟨_, rfl⟩
    have e1r : τ1.rows = τ.rows := by rw [hτ1]; split <;> rfl
    have g1 : LGood τ1 := by
      rw [hτ1]
      split
      · exact ⟨g.nd, g.rg, g.hn, g.hr, mp, by dsimp only; split <;> omega⟩
      · exact g
    refine w_cons (W.post (Q := fun f h' => f = .next ∧ LawAt prog w h' l (h.objs.size :: X) τ1 ∧ Kept l.all h₈ h') (w_If (w_tAnd (w_and (w_tCmp (w_ld F₈ rfl (w_none (w_isNotNone (w_truthy ?_)))))))) ?_)
    · simp only [e1, if_true]
      refine w_and (w_tCmp (w_Sub (w_ld F₈ rfl (w_int fun t => w_row0 lr fun t => w_int fun u => w_gt (w_truthy ?_)))))
      by_cases c5 : r.s > 2
      · simp only [c5, decide_true, if_true] at hτ1 ⊢
        refine w_and0 ?_
        try simp only [if_true]
        obtain ⟨tm8, tg8, d8⟩ := x₈.st
        obtain ⟨ct, ci⟩ := x₈.cn
        refine w_cons (W.post (Q := fun f h' => f = .next ∧ LawAt prog w h' l (h.objs.size :: X) { τ with cn := (if r.s = 3 then { τ.cn with rs := τ.cn.rs + 1 } else { τ.cn with os := τ.cn.os + 1 }) } ∧ Kept [l.ca] h₈ h') (w_AugSub (w_Sub (w_ld F₈ rfl (w_str fun t => w_sd d8 rfl (w_Sub (w_ld F₈ rfl (w_int fun t => w_row0 lr fun t => ?_))))))) ?_)
        · by_cases c3 : r.s = 3
          · refine w_lgetI (j := 3) ci (by omega) (by simp) rfl (w_int fun t => w_iadd fun t' => w_lset (j := 3) ci (by omega) (by simp) (by simp) fun h₉ i₉ k₉ => ⟨rfl, ?_, k₉⟩)
            rw [if_pos c3]
            exact x₈.setCn k₉ ⟨_, by rw [cnV_set3] at i₉; exact i₉⟩
          · refine w_lgetI (j := 4) ci (by omega) (by simp) rfl (w_int fun t => w_iadd fun t' => w_lset (j := 4) ci (by omega) (by simp) (by simp) fun h₉ i₉ k₉ => ⟨rfl, ?_, k₉⟩)
            rw [if_neg c3]
            exact x₈.setCn k₉ ⟨_, by rw [cnV_set4] at i₉; exact i₉⟩
        rintro f h₉ ⟨rfl, x₉, k₉⟩
        have F₉ := fk B F₈ (k₉.mono (m1 l.m4)) hL x.lo
        have lr₉ := lr.kept k₉ (by simp; intro e; exact hbl (e ▸ l.m4))
        obtain ⟨tm9, tg9, d9⟩ := x₉.st
        refine w_cons (w_AssignSub (W.post (Q := fun v' h' => Kept [] h₉ h' ∧ ∃ t, v' = .int (if r.s = 3 then min τ.most (τ.goal + farOf z own other) else max 0 (τ.goal - farOf z own other)) t) (w_IfExp (w_tCmp (w_Sub (w_ld F₉ rfl (w_int fun t => w_row0 lr₉ fun t => w_int fun u => w_eq (w_truthy ?_)))))) ?_))
        · by_cases c3 : r.s = 3
          · have : (r.s == 3) = true := by simpa using c3
            simp only [this, if_true, c3]
            exact w_bcall B F₉.keep (by k_is) (by boot_by_name) (by decide) (w_items (w_Sub (w_ld F₉ rfl (w_str fun t => w_sd d9 rfl (w_items (w_BinOp (w_Sub (w_ld F₉ rfl (w_str fun t => w_sd d9 rfl (w_ld F₉ rfl (w_add fun t => w_items0 (w_min room.hand fun h' t k => ⟨k, t, rfl⟩))))))))))))
          · have : (r.s == 3) = false := by simpa using c3
            simp only [this, Bool.false_eq_true, if_false, c3]
            exact w_bcall B F₉.keep (by k_is) (by boot_by_name) (by decide) (w_items (w_int fun t => w_items (w_BinOp (w_Sub (w_ld F₉ rfl (w_str fun t => w_sd d9 rfl (w_ld F₉ rfl (w_sub fun t => w_items0 (w_max room.hand fun h' t k => ⟨k, t, rfl⟩)))))))))
        rintro v' h₁₀ ⟨k₁₀, tv, rfl⟩
        have F₁₀ := fk0 F₉ k₁₀
        have x₁₀ := x₉.kept0 k₁₀
        refine w_ld F₁₀ rfl (w_str fun t => w_sset (d9.kept k₁₀ (by simp)) (by simp) fun h₁₁ d₁₁ k₁₁ => w_nil ⟨rfl, ?_, (((k₉.mono (m1 l.m4)).trans k₁₀.nil).trans (k₁₁.mono (m1 l.m2)))⟩)
        have := x₁₀.setSt (m := τ.most) (g := if r.s = 3 then min τ.most (τ.goal + farOf z own other) else max 0 (τ.goal - farOf z own other)) k₁₁ ⟨_, _, d₁₁⟩
        rw [hτ1]; exact this
      · simp only [c5, decide_false, Bool.false_eq_true, if_false] at hτ1 ⊢
        rw [hτ1]
        exact w_nil ⟨rfl, x₈, Kept.refl _ _⟩
    rintro f h₉ ⟨rfl, x₉, k₉⟩
    have F₉ := fk B F₈ k₉ hL x.lo
    have lr₉ := lr.kept k₉ hbl
    have g9len : τ1.rows.length ≤ 8 := g1.len
    -- if row is not None: rows.remove(row)
    refine w_cons (w_If (w_tCmp (w_ld F₉ rfl (w_none (w_isNotNone (w_truthy ?_))))))
    simp only [e1, if_true]
    refine w_cons (w_ExprAny (s_removeRow (room.deeper (m := 1)).u1 (w_ld F₉ rfl ⟨_, _, _, rfl, x₉.rows, hrl, by omega, w_ld F₉ rfl ⟨b, r, rfl, x₉.rows, lr₉, by rw [e1r]; exact hrm, fun h₁₀ k₁₀ rows₁₀ => ?_⟩⟩)))
    have x₁₀ := x₉.setRows k₁₀ rows₁₀
    have F₁₀ := fk B F₉ (k₁₀.mono (m1 l.m1)) hL x.lo
    have lr₁₀ := lr₉.kept k₁₀ (by simp; intro e; exact hbl (e ▸ l.m1))
    have g10 := g1.subRows (erase_sub τ1.rows r)
    -- _law_out
    refine w_nil (w_cons (w_ExprAny (w_fcall B F₁₀.keep (by k_is) (by k_is) (w_items (w_ld F₁₀ rfl (w_items (w_ld F₁₀ rfl (w_items (w_ld F₁₀ rfl (w_items (w_And2 (w_Cmp (w_ld F₁₀ rfl (w_none (w_isNotNone (w_truthy ?_)))))))))))))))) 
    simp only [e1, if_true]
    refine w_Cmp (w_Sub (w_ld F₁₀ rfl (w_int fun t => w_row0 lr₁₀ fun t => w_int fun u => w_eq (w_items0 ⟨F₁₀.keep, c_law_out B F₁₀.keep room.deeper x₁₀ (hXl F₁₀) g10 fun h₁₁ k₁₁ x₁₁ => ?_⟩))))
    have F₁₁ := fk B F₁₀ k₁₁ hL x.lo
    have g11 := g10.out z (r.s == 4)
    have l11 := g11.len
    have keys := lout_keys (k := k) (z := z) (s := r.s == 4) ((τ1.rows.erase r).length + 1) (τ := { τ1 with rows := τ1.rows.erase r }) (by rw [← hrk]; exact erase_keys g1.nd (by rw [e1r]; exact hrm))
    refine w_cons (w_ExprAny (s_appendRow (w_ld F₁₁ rfl ⟨_, _, _, rfl, x₁₁.rows, hrl, by omega, x₁₁.xl F₁₁ hX, s_newRow (r := ⟨2, k, z, v⟩)
      (w_IfExp (w_tCmp (w_ld F₁₁ rfl (w_none (w_isNone (w_truthy (by simp only [e0, Bool.false_eq_true, if_false]; exact w_int fun t => ⟨⟨t, rfl⟩, rfl⟩))))))) (w_ld F₁₁ rfl ⟨⟨kt, rfl⟩, rfl⟩) (w_ld F₁₁ rfl ⟨⟨zt, rfl⟩, rfl⟩) (w_ld F₁₁ rfl ⟨hV, rfl⟩)
      fun h₁₂ k₁₂ lr' => ⟨_, _, rfl, k₁₂, Nat.le_refl _, lr', fun h₁₃ k₁₃ rows₁₃ => ?_⟩⟩)))
    have x₁₃ := (x₁₁.kept0 k₁₂).setRows k₁₃ rows₁₃
    have F₁₃ := fk B (fk0 F₁₁ k₁₂) (k₁₃.mono (m1 l.m1)) hL x.lo
    have g13 := g11.addRow (r := ⟨2, k, z, v⟩) keys ⟨hk, hz, by dsimp only; omega, by dsimp only; omega⟩
    refine w_cons (w_ExprAny (w_fcall B F₁₃.keep (by k_is) (by k_is) (w_items (w_ld F₁₃ rfl (w_items (w_ld F₁₃ rfl (w_items0 ⟨F₁₃.keep, c_law_cut B F₁₃.keep room.deeper x₁₃ (hXl F₁₃) g13 fun h₁₄ k₁₄ x₁₄ => ?_⟩)))))))
    refine w_cons (w_Return (w_bool ?_))
    have := q h₁₄ (Kept.fin ((((((k18.trans (k₉.mono inl)).trans (k₁₀.mono fun a ha => inl a (m1 l.m1 a ha))).trans (k₁₁.mono inl)).trans k₁₂.nil).trans (k₁₃.mono fun a ha => inl a (m1 l.m1 a ha))).trans (k₁₄.mono inl)))
    simp only [lawPut, c1, if_false, eo] at this
    rw [← hfr, ← hτ1] at this
    exact this x₁₄.leave
end
end Mine
end

section
open PySem PySem.W PyProof.Rows PySem.Calls PySem.SeqAt
namespace Mine
inductive AV where
  | none
  | int (i : Int)
  | bool (b : Bool)
def AV.of : Option Int → AV
  | .none => .none
  | some i => .int i
def AVal (v : Value) : AV → Prop
  | .none => v = .none
  | .int i => ∃ t, v = .int i t
  | .bool b => v = .bool b
theorem AVal.of {v : Value} {o : Option Int} (x : Val v o) : AVal v (AV.of o) := by cases o <;> exact x
inductive Ans where
  | told (a : AV)
  | mis (s : Str)
def AnsV (lo : Addr) (h : Heap) (V : Value) : Ans → Prop
  | .told a => ∃ b t v, V = .ref b ∧ lo ≤ b ∧ PT h b [.str "told" t, v] ∧ AVal v a
  | .mis s => ∃ b t u, V = .ref b ∧ lo ≤ b ∧ PT h b [.str "misused" t, .str s u]

def lawDue (τ : LSt) (what key far : Int) : LSt × Ans :=
  if what < 2 then ((lawGet τ key).1, .told (AV.of (lawGet τ key).2))
  else if what < 5 then
    if far % 6 > 0 then ((lawPut τ key (some (100 * far + key)) (far % 6)).1, .told (.bool (lawPut τ key (some (100 * far + key)) (far % 6)).2)) else (τ, .mis "a thing without size")
  else if what = 5 then ((lawDrop τ key).1, .told (.bool (lawDrop τ key).2))
  else if what = 6 then
    if far % 3 = 0 then (if hin τ.held key then (lawRelease τ key, .told .none) else (τ, .mis "it is not held"))
    else if isHere (lfind τ.rows key) then (lawHold τ key, .told .none) else (τ, .mis "what is not here can't be held")
  else if far % 4 = 0 then ((lawClear τ).1, .told (.int (lawClear τ).2))
  else if far % 4 = 1 then (τ, .told (.bool (isHere (lfind τ.rows key))))
  else if far / 4 % 13 = 0 then (τ, .mis "a cache without room")
  else (lawResize τ (far / 4 % 13), .told .none)

/-! putting many out -/
theorem mem_away {τ : LSt} {r x : LR} (hx : x ∈ τ.rows) (ne : x ≠ r) : x ∈ (lawAway τ r).rows := by
  unfold lawAway
  dsimp only
  exact List.mem_append_left _ ((List.mem_erase_of_ne ne).mpr hx)
theorem fold_mem (K : List LR) : K.Nodup → ∀ τ : LSt, (∀ r ∈ K, r ∈ τ.rows) → ∀ j r, K[j]? = some r → r ∈ ((K.take j).foldl lawAway τ).rows := by
  induction K with
  | nil => intro _ τ _ j k h; simp at h
  | cons a r ih =>
    intro nd τ hs j k h
    rw [List.nodup_cons] at nd
    cases j with
    | zero => simp at h; subst h; exact hs _ List.mem_cons_self
    | succ j =>
      rw [List.take_succ_cons, List.foldl_cons]
      exact ih nd.2 _ (fun k hk => mem_away (r := a) (hs k (List.mem_cons_of_mem _ hk)) fun e => nd.1 (e ▸ hk)) j k (by simpa using h)
theorem fold_lgood (K : List LR) : K.Nodup → ∀ τ : LSt, LGood τ → (∀ r ∈ K, r ∈ τ.rows ∧ r.s ≤ 2) → LGood (K.foldl lawAway τ) := by
  induction K with
  | nil => intro _ τ g _; exact g
  | cons a r ih =>
    intro nd τ g hs
    rw [List.nodup_cons] at nd
    have ha := hs a List.mem_cons_self
    exact ih nd.2 _ (g.away ha.1 ha.2) fun k hk => ⟨mem_away (r := a) (hs k (List.mem_cons_of_mem _ hk)).1 fun e => nd.1 (e ▸ hk), (hs k (List.mem_cons_of_mem _ hk)).2⟩
theorem rows_nd {τ : LSt} (g : LGood τ) : τ.rows.Nodup := by
  have := g.nd
  exact List.Pairwise.of_map (·.k) (fun a b h e => h (by rw [e])) this
theorem free_nd {τ : LSt} (g : LGood τ) : (freeS τ 1 ++ freeS τ 2).Nodup := by
  rw [List.nodup_append]
  refine ⟨(rows_nd g).sublist List.filter_sublist, (rows_nd g).sublist List.filter_sublist, ?_⟩
  rintro a ha b hb rfl
  have h1 := free_mem ha
  have h2 := free_mem hb
  omega
theorem freeB_mem {τ : LSt} {r : LR} (h : r ∈ freeS τ 1 ++ freeS τ 2) : r ∈ τ.rows ∧ r.s ≤ 2 := by
  rcases List.mem_append.mp h with m | m <;> have := free_mem m <;> exact ⟨this.1, by omega⟩
theorem LGood.wo {τ : LSt} (g : LGood τ) (k : Int) : LGood { τ with held := hwo τ.held k } :=
  g.setHeld (g.hn.sublist (List.filter_sublist.map _)) fun p hp => g.hr p (List.mem_filter.mp hp).1
theorem LGood.hst {τ : LSt} (g : LGood τ) {k n : Int} (hk : 0 ≤ k ∧ k < 8) : LGood { τ with held := hst τ.held k n } := by
  cases e : hin τ.held k with
  | true =>
    refine g.setHeld (by rw [hst_keys e]; exact g.hn) fun p hp => ?_
    have : p.1 ∈ (Mine.hst τ.held k n).map (·.1) := List.mem_map_of_mem hp
    rw [hst_keys e] at this
    obtain ⟨p', hp', e'⟩ := List.mem_map.mp this
    rw [← e']; exact g.hr p' hp'
  | false =>
    refine g.setHeld ?_ fun p hp => ?_
    · rw [hst_keys' e, List.nodup_append]
      refine ⟨g.hn, by simp, ?_⟩
      intro a ha b hb
      rw [List.mem_singleton.mp hb]
      rintro rfl
      obtain ⟨p, hp, e'⟩ := List.mem_map.mp ha
      have := List.any_eq_false.mp e p hp
      simp [e'] at this
    · have : p.1 ∈ (Mine.hst τ.held k n).map (·.1) := List.mem_map_of_mem hp
      rw [hst_keys' e] at this
      rcases List.mem_append.mp this with m | m
      · obtain ⟨p', hp', e'⟩ := List.mem_map.mp m; rw [← e']; exact g.hr p' hp'
      · rw [List.mem_singleton.mp m]; exact hk
theorem LGood.resize {τ : LSt} (g : LGood τ) {m : Int} (hm : 1 ≤ m ∧ m ≤ 12) : LGood { τ with most := m, goal := min τ.goal m } := by
  have := g.gp
  exact ⟨g.nd, g.rg, g.hn, g.hr, hm, by dsimp only; omega⟩
end Mine
end

section
open PySem PySem.W PyProof.Rows PySem.Calls PySem.SeqAt
namespace Mine
section
variable {prog : Program} {w : World} {c : Cx} {base h : Heap} {A : Around} {R : Result → Heap → Prop} {E : Value → Heap → Prop} {env : Env} {l : LA} {X : List Addr} {τ : LSt}

/-- ('misused', text) -/
theorem s_mis {x y : Str} {p1 p2 p : Pos} {k1 k2 k : Nat} {Q : Value → Heap → Prop} {lo : Addr} (hlo : lo ≤ h.objs.size) (hx : x = "misused") (q : ∀ h' V, Kept [] h h' → AnsV lo h' V (.mis y) → Q V h')
    (h1 : starEach [.Constant (.str x) k1 p1, .Constant (.str y) k2 p2] env = (false, eval (.Constant (.str x) k1 p1) env) :: starEach [.Constant (.str y) k2 p2] env := by rfl)
    (h2 : starEach [.Constant (.str y) k2 p2] env = (false, eval (.Constant (.str y) k2 p2) env) :: starEach [] env := by rfl) : W prog w c A (eval (.Tuple [.Constant (.str x) k1 p1, .Constant (.str y) k2 p2] k p) env) Q E h := by
  subst hx
  exact w_Tuple (w_items (w_str fun t => w_items (w_str fun u => w_items0 ⟨by simp, fun h' p' k' => q h' _ k' ⟨_, t, u, rfl, hlo, p'⟩⟩) h2) h1)
/-- ('told', e) -/
theorem s_told {x : Str} {e : Expr} {p1 p : Pos} {k1 k : Nat} {Q : Value → Heap → Prop} {lo : Addr} (hx : x = "told") (y : W prog w c A (eval e env) (fun v h' => ∃ a, AVal v a ∧ lo ≤ h'.objs.size ∧ ∀ h'' V, Kept [] h' h'' → AnsV lo h'' V (.told a) → Q V h'') E h)
    (h1 : starEach [.Constant (.str x) k1 p1, e] env = (false, eval (.Constant (.str x) k1 p1) env) :: starEach [e] env := by rfl)
    (h2 : starEach [e] env = (false, eval e env) :: starEach [] env := by rfl) : W prog w c A (eval (.Tuple [.Constant (.str x) k1 p1, e] k p) env) Q E h := by
  subst hx
  refine w_Tuple (w_items (w_str fun t => w_items (y.post fun v h' q => ?_) h2) h1)
  obtain ⟨a, ha, hlo, q⟩ := q
  exact w_items0 ⟨by simp, fun h'' p' k' => q h'' _ k' ⟨_, t, v, rfl, hlo, p', ha⟩⟩

theorem c_law_due {what k far : Int} {wt kt ft : Tok} (B : Base w base) (kp : In0 base h) (room : Room A 4) (x : LawAt prog w h l X τ) (hX : ∀ a ∈ X, a < h.objs.size) (g : LGood τ) (hk : 0 ≤ k ∧ k < 8)
    (q : ∀ h' V, Kept l.all h h' → LawAt prog w h' l X (lawDue τ what k far).1 → AnsV h.objs.size h' V (lawDue τ what k far).2 → R (.ok (.ret V)) h') : C prog w c A (.call (.ref 337) ⟨[.ref l.rl, .ref l.sd, .int what wt, .int k kt, .int far ft], []⟩) R h := by
  refine cfC [("rows", .ref l.rl), ("state", .ref l.sd), ("what", .int what wt), ("key", .int k kt), ("far", .int far ft)] "state" (.ref l.sd) B kp room (by k_is) (by k_is) rfl (fun _ => rfl) rfl rfl rfl (fun h₁ F cell k₁ => ?_)
  have hL := fL x.lt
  have x₁ := x.enter k₁
  have hu : ∀ env, (A.deeper env).units < cLine := fun env => (room.deeper (m := 0)).u
  have hrl : l.rl ∈ l.all ++ (h.objs.size :: X) := List.mem_append_left _ l.m1
  have g8 := g.len
  have gh := g.hlen
  have mp := g.mp
  have sz : ∀ {h' : Heap} {m : Str → Option Value}, Fr base h.objs.size h' m → h.objs.size ≤ h'.objs.size := fun {h' m} F' => by obtain ⟨o, _, _, e, _⟩ := F'.ns; exact Nat.le_of_lt (Heap.lt_size e)
  have hXl : ∀ {h' : Heap} {m : Str → Option Value}, Fr base h.objs.size h' m → ∀ a ∈ h.objs.size :: X, a < h'.objs.size := fun {h' m} F' a ha => by
    have hL' : h.objs.size < h'.objs.size := by obtain ⟨o, _, _, e, _⟩ := F'.ns; exact Heap.lt_size e
    rcases List.mem_cons.mp ha with rfl | ha
    · exact hL'
    · exact Nat.lt_trans (hX a ha) hL'
  have hC : h.objs.size + 1 ∉ h.objs.size :: l.all := by
    simp only [List.mem_cons, not_or]
    exact ⟨Nat.succ_ne_self _, fun m => Nat.lt_irrefl _ (Nat.lt_trans (x.lt _ m) (Nat.lt_succ_self _))⟩
  have hCl : h.objs.size + 1 ∉ l.all := fun m => hC (List.mem_cons_of_mem _ m)
  -- row = _law_row(rows, key)
  refine w_cons (w_AssignName (s_row B room.deeper F x₁.rows (by omega) (w_ld F rfl ⟨rfl, rfl⟩) (w_ld F rfl ⟨rfl, rfl⟩) fun h₂ V' k₂ fv => ?_))
  refine w_st (fk0 F k₂) fun h₃ F₃ k₃ => ?_
  have x₃ := (x₁.kept0 k₂).frame k₃ hL
  have cell₃ := cell_kept (cell_kept cell k₂ (by simp)) k₃ (by simp)
  have fv₃ := fv.kept k₃ (fun a ha => by rw [List.mem_singleton.mp ha]; exact List.mem_append_right _ List.mem_cons_self)
  have k13 : Kept (l.all ++ [h.objs.size]) h h₃ := (k₁.nil.trans k₂.nil).trans (k₃.mono inr)
  -- is_here
  refine w_cons (w_AssignName (W.post (Q := fun v h' => h' = h₃ ∧ v = .bool (isHere (lfind τ.rows k))) (w_And2 (w_Cmp (w_ld F₃ rfl (w_none (w_isNotNone (w_truthy ?_)))))) ?_))
  · cases eo : lfind τ.rows k with
    | none =>
      rw [eo] at fv₃
      have : V' = .none := fv₃
      subst this
      have e1 : (!(Value.none == Value.none)) = false := rfl
      first | refine if_no (by first | rfl | simp only [e1]) ?_ | simp only [e1, Bool.false_eq_true, if_false]
      exact ⟨by trivial, by trivial⟩
    | some r =>
      rw [eo] at fv₃
      obtain ⟨b, rfl, lr, hb⟩ := fv₃
      have e1 : (!(Value.ref b == Value.none)) = true := rfl
      first | refine if_yes (by first | rfl | simp only [e1]) ?_ | simp only [e1, if_true]
      exact w_Cmp (w_Sub (w_ld F₃ rfl (w_int fun t => w_row0 lr fun t => w_int fun u => w_lt ⟨rfl, rfl⟩)))
  rintro v h' ⟨rfl, rfl⟩
  refine w_st F₃ fun h₄ F₄ k₄ => ?_
  have x₄ := x₃.frame k₄ hL
  have cell₄ := cell_kept cell₃ k₄ (by simp)
  have k14 : Kept (l.all ++ [h.objs.size]) h h₄ := k13.trans (k₄.mono inr)
  obtain ⟨tm, tg, d⟩ := x₄.st
  -- if what < 2
  refine w_cons (w_If (w_tCmp (w_ld F₄ rfl (w_int fun t => w_lt (w_truthy ?_)))))
  by_cases c1 : what < 2
  · first | refine if_yes (by first | rfl | simp only [c1, decide_true]) ?_ | simp only [c1, decide_true, if_true]
    refine w_cons (w_Return (s_told rfl (w_fcall B F₄.keep (by k_is) (by k_is) (w_items (w_ld F₄ rfl (w_items (w_cell cell₄ (w_items (w_ld F₄ rfl (w_items0 ⟨F₄.keep, c_law_get B F₄.keep room.deeper x₄ (hXl F₄) g fun h₅ V k₅ x₅ hV => ⟨_, AVal.of hV, sz (fk B F₄ k₅ hL x.lo), fun h₆ V6 k₆ av => ?_⟩⟩))))))))))
    have := q h₆ V6 (Kept.fin ((k14.trans (k₅.mono inl)).trans k₆.nil))
    simp only [lawDue, c1, if_true] at this
    exact this (x₅.leave.kept0 k₆) av
  first | refine if_no (by first | rfl | simp only [c1, decide_false]) ?_ | simp only [c1, decide_false, Bool.false_eq_true, if_false]
  -- if what < 5
  refine w_nil (w_cons (w_If (w_tCmp (w_ld F₄ rfl (w_int fun t => w_lt (w_truthy ?_))))))
  by_cases c2 : what < 5
  · first | refine if_yes (by first | rfl | simp only [c2, decide_true]) ?_ | simp only [c2, decide_true, if_true]
    refine w_cons (w_Return (w_IfExp (w_tCmp (w_BinOp (w_ld F₄ rfl (w_int fun t => w_mod (by decide) fun t => w_int fun u => w_gt (w_truthy ?_)))))))
    by_cases c3 : far % 6 > 0
    · first | refine if_yes (by first | rfl | simp only [c3, decide_true]) ?_ | simp only [c3, decide_true, if_true]
      have hz : 1 ≤ far % 6 ∧ far % 6 ≤ 5 := by omega
      refine s_told rfl (w_fcall B F₄.keep (by k_is) (by k_is) (w_items (w_ld F₄ rfl (w_items (w_cell cell₄ (w_items (w_ld F₄ rfl (w_items (w_BinOp (w_BinOp (w_int fun t => w_ld F₄ rfl (w_mul (by decide) fun t => w_ld F₄ rfl (w_add fun tv => w_items (w_BinOp (w_ld F₄ rfl (w_int fun t => w_mod (by decide) fun tz => w_items0 ⟨F₄.keep, c_law_put (v := some (100 * far + k)) B F₄.keep room.deeper x₄ (hXl F₄) g hk hz ⟨tv, rfl⟩ fun h₅ k₅ x₅ => ⟨.bool _, rfl, sz (fk B F₄ k₅ hL x.lo), fun h₆ V6 k₆ av => ?_⟩⟩))))))))))))))))
      have := q h₆ V6 (Kept.fin ((k14.trans (k₅.mono inl)).trans k₆.nil))
      simp only [lawDue, c1, c2, c3, if_true, if_false] at this
      exact this (x₅.leave.kept0 k₆) av
    · first | refine if_no (by first | rfl | simp only [c3, decide_false]) ?_ | simp only [c3, decide_false, Bool.false_eq_true, if_false]
      refine s_mis (sz F₄) rfl fun h₆ V6 k₆ av => ?_
      have := q h₆ V6 (Kept.fin (k14.trans k₆.nil))
      simp only [lawDue, c1, c2, c3, if_true, if_false] at this
      exact this (x₄.leave.kept0 k₆) av
  first | refine if_no (by first | rfl | simp only [c2, decide_false]) ?_ | simp only [c2, decide_false, Bool.false_eq_true, if_false]
  -- if what == 5
  refine w_nil (w_cons (w_If (w_tCmp (w_ld F₄ rfl (w_int fun t => w_eq (w_truthy ?_))))))
  by_cases c5 : what = 5
  · have e : (what == 5) = true := by simpa using c5
    first | refine if_yes (by first | rfl | simp only [e]) ?_ | simp only [e, if_true]
    refine w_cons (w_Return (s_told rfl (w_fcall B F₄.keep (by k_is) (by k_is) (w_items (w_ld F₄ rfl (w_items (w_cell cell₄ (w_items (w_ld F₄ rfl (w_items0 ⟨F₄.keep, c_law_drop B F₄.keep room.deeper x₄ (hXl F₄) g fun h₅ k₅ x₅ => ⟨.bool _, rfl, sz (fk B F₄ k₅ hL x.lo), fun h₆ V6 k₆ av => ?_⟩⟩))))))))))
    have := q h₆ V6 (Kept.fin ((k14.trans (k₅.mono inl)).trans k₆.nil))
    simp only [lawDue, c1, c2, if_false] at this
    rw [if_pos c5] at this
    exact this (x₅.leave.kept0 k₆) av
  have e5 : (what == 5) = false := by simpa using c5
  first | refine if_no (by first | rfl | simp only [e5]) ?_ | simp only [e5, Bool.false_eq_true, if_false]
  obtain ⟨lo, cl, eh, dh⟩ := x₄.held
  have hcl : cl.length = τ.held.length := by rw [← eh]; simp
  -- if what == 6 and far % 3 == 0
  refine w_nil (w_cons (w_If (w_tAnd (w_and (w_tCmp (w_ld F₄ rfl (w_int fun t => w_eq (w_truthy ?_))))))))
  by_cases c6 : what = 6
  · have e6 : (what == 6) = true := by simpa using c6
    first | refine if_yes (by first | rfl | simp only [e6]) ?_ | simp only [e6, if_true]
    refine w_and (w_tCmp (w_BinOp (w_ld F₄ rfl (w_int fun t => w_mod (by decide) fun t => w_int fun u => w_eq (w_truthy ?_)))))
    by_cases c7 : far % 3 = 0
    · have e7 : (far % 3 == 0) = true := by simpa using c7
      first | refine if_yes (by first | rfl | simp only [e7]) ?_ | simp only [e7, if_true]
      refine w_and0 ?_
      first | refine if_yes (by rfl) ?_ | simp only [if_true]
      refine w_cons (w_If (w_tCmp (w_ld F₄ rfl (w_Sub (w_cell cell₄ (w_str fun t => w_sd d rfl (w_dnotin dh lo (w_truthy ?_))))))))
      rw [held_any eh]
      cases hh : hin τ.held k with
      | false =>
        first | refine if_yes (by first | rfl | simp only [Bool.not_false]) ?_ | simp only [Bool.not_false, if_true]
        refine w_cons (w_Return (s_mis (sz F₄) rfl fun h₆ V6 k₆ av => ?_))
        have := q h₆ V6 (Kept.fin (k14.trans k₆.nil))
        simp only [lawDue, c1, c2, if_false] at this
        rw [if_neg c5, if_pos c6, if_pos c7] at this
        simp only [hh, Bool.false_eq_true, if_false] at this
        exact this (x₄.leave.kept0 k₆) av
      | true =>
        first | refine if_no (by first | rfl | simp only [Bool.not_true]) ?_ | simp only [Bool.not_true, Bool.false_eq_true, if_false]
        have hq : ∀ {h' V}, Kept l.all h h' → LawAt prog w h' l X (lawRelease τ k) → AnsV h.objs.size h' V (.told .none) → R (.ok (.ret V)) h' := fun {h' V} kk xx av => by
          have := q h' V kk
          simp only [lawDue, c1, c2, if_false] at this
          rw [if_neg c5, if_pos c6, if_pos c7] at this
          simp only [hh, if_true] at this
          exact this xx av
        obtain ⟨f, hf, ev⟩ := held_at eh k
        obtain ⟨n, hn⟩ := hin_hat hh
        obtain ⟨tn, en⟩ := hf n
        rw [hn, Option.map_some, en] at ev
        refine w_nil (w_cons (w_AugSub (w_Sub (w_cell cell₄ (w_str fun t => w_sd d rfl (w_ld F₄ rfl (w_diget dh ev (w_int fun t => w_isub fun t' => w_dset dh (by simp; omega) fun h₅ d₅ k₅ => ?_))))))))
        have H₅ := held_set lo eh d₅
        have x₅ := x₄.setHeld k₅ H₅
        have g₅ := g.hst (n := n - 1) hk
        have F₅ := fk B F₄ (k₅.mono (m1 l.m3)) hL x.lo
        have cell₅ := cell_kept cell₄ k₅ (fun m => hCl (m1 l.m3 _ m))
        have k15 := k14.trans (k₅.mono fun a ha => inl a (m1 l.m3 a ha))
        have res : lawRelease τ k = if n - 1 = 0 then lawSettle { τ with held := hwo (hst τ.held k (n - 1)) k } else { τ with held := hst τ.held k (n - 1) } := by
          unfold lawRelease; rw [hn]; rfl
        obtain ⟨lo₅, cl₅, eh₅, dh₅⟩ := H₅
        obtain ⟨f₅, hf₅, ev₅⟩ := held_at eh₅ k
        obtain ⟨tn₅, en₅⟩ := hf₅ (n - 1)
        rw [hat_hst hh, Option.map_some, en₅] at ev₅
        have hcl₅ : cl₅.length ≤ 8 := by have := g₅.hlen; rw [← eh₅] at this; simpa using this
        obtain ⟨tm5, tg5, d5⟩ := x₅.st
        refine w_cons (w_If (w_tCmp (w_Sub (w_Sub (w_cell cell₅ (w_str fun t => w_sd d5 rfl (w_ld F₅ rfl (w_dget dh₅ ev₅ (w_int fun t => w_eq (w_truthy ?_))))))))))
        by_cases c8 : n - 1 = 0
        · have e8 : (n - 1 == 0) = true := by simpa using c8
          rw [e8]
          first | refine if_yes (by rfl) ?_ | simp only [if_true]
          rw [if_pos c8] at res
          refine w_cons (w_ExprAny (w_pop1 (w_Sub (w_cell cell₅ (w_str fun t => w_sd d5 rfl ⟨_, rfl, ⟨_, dh₅⟩, w_ld F₅ rfl ⟨k, kt, _, _, rfl, dh₅, by simp; omega, ev₅, fun h₆ d₆ k₆ => ?_⟩⟩)))))
          have x₆ := x₅.setHeld k₆ (held_wo lo₅ eh₅ d₆)
          have g₆ := g₅.wo k
          have F₆ := fk B F₅ (k₆.mono (m1 l.m3)) hL x.lo
          have cell₆ := cell_kept cell₅ k₆ (fun m => hCl (m1 l.m3 _ m))
          refine w_cons (w_ExprAny (w_fcall B F₆.keep (by k_is) (by k_is) (w_items (w_ld F₆ rfl (w_items (w_cell cell₆ (w_items (w_int fun t => w_items (w_bool (w_items0 ⟨F₆.keep, c_law_out B F₆.keep room.deeper x₆ (hXl F₆) g₆ fun h₇ k₇ x₇ => ?_⟩))))))))) )
          have F₇ := fk B F₆ k₇ hL x.lo
          have cell₇ := cell_kept cell₆ k₇ hCl
          refine w_cons (w_ExprAny (w_fcall B F₇.keep (by k_is) (by k_is) (w_items (w_ld F₇ rfl (w_items (w_cell cell₇ (w_items0 ⟨F₇.keep, c_law_cut B F₇.keep room.deeper x₇ (hXl F₇) (g₆.out 0 false) fun h₈ k₈ x₈ => ?_⟩)))))))
          have F₈ := fk B F₇ k₈ hL x.lo
          refine w_nil (w_cons (w_Return (s_told rfl (w_none ⟨.none, rfl, sz F₈, fun h₉ V9 k₉ av => hq ?_ ?_ av⟩))))
          · exact Kept.fin ((((k15.trans (k₆.mono fun a ha => inl a (m1 l.m3 a ha))).trans (k₇.mono inl)).trans (k₈.mono inl)).trans k₉.nil)
          · rw [res]; exact x₈.leave.kept0 k₉
        · have e8 : (n - 1 == 0) = false := by simpa using c8
          rw [e8]
          first | refine if_no (by rfl) ?_ | simp only [Bool.false_eq_true, if_false]
          rw [if_neg c8] at res
          refine w_nil (w_cons (w_Return (s_told rfl (w_none ⟨.none, rfl, sz F₅, fun h₉ V9 k₉ av => hq ?_ ?_ av⟩))))
          · exact Kept.fin (k15.trans k₉.nil)
          · rw [res]; exact x₅.leave.kept0 k₉
    · have e7 : (far % 3 == 0) = false := by simpa using c7
      first | refine if_no (by first | rfl | simp only [e7]) ?_ | simp only [e7, Bool.false_eq_true, if_false]
      refine w_nil (w_cons (w_If (w_tCmp (w_ld F₄ rfl (w_int fun t => w_eq (w_truthy ?_))))))
      first | refine if_yes (by first | rfl | simp only [e6]) ?_ | simp only [e6, if_true]
      refine w_cons (w_If (w_tNot (w_tval (w_ld F₄ rfl (w_truthy ?_)))))
      cases hi : isHere (lfind τ.rows k) with
      | false =>
        first | refine if_yes (by first | rfl | simp only [Bool.not_false]) ?_ | simp only [Bool.not_false, if_true]
        refine w_cons (w_Return (s_mis (sz F₄) rfl fun h₆ V6 k₆ av => ?_))
        have := q h₆ V6 (Kept.fin (k14.trans k₆.nil))
        simp only [lawDue, c1, c2, if_false] at this
        rw [if_neg c5, if_pos c6, if_neg c7] at this
        simp only [hi, Bool.false_eq_true, if_false] at this
        exact this (x₄.leave.kept0 k₆) av
      | true =>
        first | refine if_no (by first | rfl | simp only [Bool.not_true]) ?_ | simp only [Bool.not_true, Bool.false_eq_true, if_false]
        obtain ⟨f, hf, ev⟩ := held_at eh k
        refine w_nil (w_cons (w_AssignSub (w_BinOp (w_get2 (w_Sub (w_cell cell₄ (w_str fun t => w_sd d rfl ⟨_, rfl, lo, ⟨_, dh⟩, w_ld F₄ rfl (w_int fun t => ⟨k, kt, _, rfl, dh, w_int fun u => ?_⟩)⟩)))))))
        have : ∃ t', (Option.map f (hat τ.held k)).getD (.int 0 t) = .int ((hat τ.held k).getD 0) t' := by
          cases hat τ.held k with
          | none => exact ⟨t, rfl⟩
          | some n => obtain ⟨t', e⟩ := hf n; exact ⟨t', e⟩
        obtain ⟨t', e'⟩ := this
        rw [ev, e']
        refine w_add fun t'' => w_Sub (w_cell cell₄ (w_str fun t => w_sd d rfl (w_ld F₄ rfl (w_dset dh (by simp; omega) fun h₅ d₅ k₅ => ?_))))
        have x₅ := x₄.setHeld k₅ (held_set lo eh d₅)
        have F₅ := fk B F₄ (k₅.mono (m1 l.m3)) hL x.lo
        refine w_cons (w_Return (s_told rfl (w_none ⟨.none, rfl, sz F₅, fun h₆ V6 k₆ av => ?_⟩)))
        have := q h₆ V6 (Kept.fin ((k14.trans (k₅.mono fun a ha => inl a (m1 l.m3 a ha))).trans k₆.nil))
        simp only [lawDue, c1, c2, if_false] at this
        rw [if_neg c5, if_pos c6, if_neg c7] at this
        simp only [hi, if_true] at this
        exact this (x₅.leave.kept0 k₆) av
  have e6 : (what == 6) = false := by simpa using c6
  first | refine if_no (by first | rfl | simp only [e6]) ?_ | simp only [e6, Bool.false_eq_true, if_false]
  refine w_nil (w_cons (w_If (w_tCmp (w_ld F₄ rfl (w_int fun t => w_eq (w_truthy ?_))))))
  first | refine if_no (by first | rfl | simp only [e6]) ?_ | simp only [e6, Bool.false_eq_true, if_false]
  -- if far % 4 == 0
  refine w_nil (w_cons (w_If (w_tCmp (w_BinOp (w_ld F₄ rfl (w_int fun t => w_mod (by decide) fun t => w_int fun u => w_eq (w_truthy ?_)))))))
  by_cases c9 : far % 4 = 0
  · have e9 : (far % 4 == 0) = true := by simpa using c9
    first | refine if_yes (by first | rfl | simp only [e9]) ?_ | simp only [e9, if_true]
    have hq : ∀ {h' V}, Kept l.all h h' → LawAt prog w h' l X (lawClear τ).1 → AnsV h.objs.size h' V (.told (.int (lawClear τ).2)) → R (.ok (.ret V)) h' := fun {h' V} kk xx av => by
      have := q h' V kk
      simp only [lawDue, c1, c2, if_false] at this
      rw [if_neg c5, if_neg c6, if_pos c9] at this
      exact this xx av
    obtain ⟨zs, ez, nd, p₄, rows₄, nX₄⟩ := x₄.rows
    have hzl : zs.length = τ.rows.length := by rw [← ez]; simp
    have H₄ := x₄.held
    refine w_cons (w_AssignName (w_BinOp (w_LCR [("state", h.objs.size + 1)] zs (fun r => r.s == 1 && !hin τ.held r.k) (fun z u => u = .ref z.1) room.hand nd (by omega) rfl (by decide) rfl (by decide) rfl (w_ld F₄ rfl ⟨l.rl, rfl, p₄, ?_, ?_, ?_⟩))))
    · intro c' C z' h₅ m₅ hC' hz hN hm' k₅
      have r₅ := (rows₄ z' hz).kept k₅ (by simp)
      have cell₅ := cell_kept cell₄ k₅ (by simp)
      have d₅ := d.kept k₅ (by simp)
      refine w_tests1 (w_tAnd (w_and (w_tCmp (w_Sub (w_ns hN hm' (w_int fun t => w_row0 r₅ fun t => w_int fun u => w_eq (w_truthy ?_)))))))
      cases e1 : (z'.2.s == 1) with
      | false => (first | refine if_no (by first | rfl | simp only [Bool.false_and]) ?_ | simp only [Bool.false_eq_true, if_false, Bool.false_and]); exact ⟨by first | rfl | trivial, Kept.refl _ _⟩
      | true =>
        first | refine if_yes (by first | rfl | simp only [Bool.true_and]) ?_ | simp only [if_true, Bool.true_and]
        obtain ⟨lo, cl, eh, dh⟩ := H₄.kept k₅ (by simp)
        refine w_and (w_tCmp (w_Sub (w_ns hN hm' (w_int fun t => w_row1 r₅ fun t => w_Sub (w_cell cell₅ (w_str fun t => w_sd d₅ rfl (w_dnotin dh lo (w_truthy ?_))))))))
        rw [held_any eh]
        cases e2 : hin τ.held z'.2.k with
        | true => (first | refine if_no (by first | rfl | simp only [Bool.not_true]) ?_ | simp only [Bool.not_true, Bool.false_eq_true, if_false]); exact ⟨by first | rfl | trivial, Kept.refl _ _⟩
        | false => (first | refine if_yes (by first | rfl | simp only [Bool.not_false]) ?_ | simp only [Bool.not_false, if_true]); exact w_and0 ⟨rfl, Kept.refl _ _⟩
    · intro c' C z' h₅ m₅ hC' hz _ hN hm' k₅
      exact w_ns hN hm' ⟨rfl, Kept.refl _ _⟩
    · intro D1 h₅ ys1 hD1 p1 pr1 k₅
      have ey1 := paired_refs pr1
      have F₅ := fk0 F₄ k₅
      have cell₅ := cell_kept cell₄ k₅ (by simp)
      have rows₅ : ∀ z ∈ zs, LRow h₅ z.1 z.2 := fun z hz => (rows₄ z hz).kept k₅ (by simp)
      have d₅ := d.kept k₅ (by simp)
      have H₅ := H₄.kept k₅ (by simp)
      refine w_LCR [("state", h.objs.size + 1)] zs (fun r => r.s == 2 && !hin τ.held r.k) (fun z u => u = .ref z.1) room.hand nd (by omega) rfl (by decide) rfl (by decide) rfl (w_ld F₅ rfl ⟨l.rl, rfl, p₄.kept k₅ (by simp), ?_, ?_, ?_⟩)
      · intro c' C z' h₆ m₆ hC' hz hN hm' k₆
        have r₆ := (rows₅ z' hz).kept k₆ (by simp)
        have cell₆ := cell_kept cell₅ k₆ (by simp)
        have d₆ := d₅.kept k₆ (by simp)
        refine w_tests1 (w_tAnd (w_and (w_tCmp (w_Sub (w_ns hN hm' (w_int fun t => w_row0 r₆ fun t => w_int fun u => w_eq (w_truthy ?_)))))))
        cases e1 : (z'.2.s == 2) with
        | false => (first | refine if_no (by first | rfl | simp only [Bool.false_and]) ?_ | simp only [Bool.false_eq_true, if_false, Bool.false_and]); exact ⟨by first | rfl | trivial, Kept.refl _ _⟩
        | true =>
          first | refine if_yes (by first | rfl | simp only [Bool.true_and]) ?_ | simp only [if_true, Bool.true_and]
          obtain ⟨lo, cl, eh, dh⟩ := H₅.kept k₆ (by simp)
          refine w_and (w_tCmp (w_Sub (w_ns hN hm' (w_int fun t => w_row1 r₆ fun t => w_Sub (w_cell cell₆ (w_str fun t => w_sd d₆ rfl (w_dnotin dh lo (w_truthy ?_))))))))
          rw [held_any eh]
          cases e2 : hin τ.held z'.2.k with
          | true => (first | refine if_no (by first | rfl | simp only [Bool.not_true]) ?_ | simp only [Bool.not_true, Bool.false_eq_true, if_false]); exact ⟨by first | rfl | trivial, Kept.refl _ _⟩
          | false => (first | refine if_yes (by first | rfl | simp only [Bool.not_false]) ?_ | simp only [Bool.not_false, if_true]); exact w_and0 ⟨rfl, Kept.refl _ _⟩
      · intro c' C z' h₆ m₆ hC' hz _ hN hm' k₆
        exact w_ns hN hm' ⟨rfl, Kept.refl _ _⟩
      · intro D2 h₆ ys2 hD2 p2 pr2 k₆
        have ey2 := paired_refs pr2
        have l1 : ys1.length ≤ 8 := by rw [ey1, List.length_map]; exact Nat.le_trans (List.length_filter_le _ _) (by omega)
        have l2 : ys2.length ≤ 8 := by rw [ey2, List.length_map]; exact Nat.le_trans (List.length_filter_le _ _) (by omega)
        refine w_ladd (p1.kept k₆ (by simp)) p2 (by omega) fun h₇ k₇ p₇ => ?_
        have F₆ := fk0 F₅ k₆
        have x₇ := ((x₄.kept0 k₅).kept0 k₆).kept0 k₇
        have cell₇ := cell_kept (cell_kept cell₅ k₆ (by simp)) k₇ (by simp)
        have rows₇ : ∀ z ∈ zs, LRow h₇ z.1 z.2 := fun z hz => ((rows₅ z hz).kept k₆ (by simp)).kept k₇ (by simp)
        obtain ⟨us, hus⟩ : ∃ us, us = (zs.filter fun z => z.2.s == 1 && !hin τ.held z.2.k) ++ (zs.filter fun z => z.2.s == 2 && !hin τ.held z.2.k) := ⟨_, rfl⟩
        have eys : ys1 ++ ys2 = us.map fun z => Value.ref z.1 := by rw [hus, List.map_append, ey1, ey2]
        have eK : us.map (·.2) = freeS τ 1 ++ freeS τ 2 := by
          rw [hus, List.map_append, zf_filter (fun r => r.s == 1 && !hin τ.held r.k), zf_filter (fun r => r.s == 2 && !hin τ.held r.k), ez]; rfl
        have hsub : ∀ z ∈ us, z ∈ zs := fun z hz => by
          rw [hus] at hz
          rcases List.mem_append.mp hz with m | m <;> exact (List.mem_filter.mp m).1
        have lus0 : (ys1 ++ ys2).length = us.length := by rw [eys]; simp
        have lus : us.length ≤ 16 := by simp at lus0; omega
        rw [eys] at p₇
        have hGL : h₆.objs.size ≠ h.objs.size := by obtain ⟨o, _, _, e, _⟩ := F₆.ns; exact Nat.ne_of_gt (Heap.lt_size e)
        refine w_st (fk0 F₆ k₇) fun h₈ F₈ k₈ => ?_
        have x₈ := x₇.frame k₈ hL
        have cell₈ := cell_kept cell₇ k₈ (by simp)
        have p₈ := p₇.kept k₈ (by simpa using hGL)
        have rows₈ : ∀ z ∈ zs, LRow h₈ z.1 z.2 := fun z hz => (rows₇ z hz).kept k₈ (fun m => nX₄ z hz (List.mem_append_right _ (by rw [List.mem_singleton.mp m]; exact List.mem_cons_self)))
        have k18 : Kept (l.all ++ [h.objs.size]) h h₈ := (((k14.trans k₅.nil).trans k₆.nil).trans k₇.nil).trans (k₈.mono inr)
        have K0 : lawClear τ = (lawCut ((us.map (·.2)).foldl lawAway τ), (us.map (·.2)).length) := by rw [eK]; rfl
        have Knd : (us.map (·.2)).Nodup := by rw [eK]; exact free_nd g
        have Kmem : ∀ r ∈ us.map (·.2), r ∈ τ.rows ∧ r.s ≤ 2 := fun r hr => by rw [eK] at hr; exact freeB_mem hr
        -- for one in free
        refine w_cons (w_ForT (L := h.objs.size) l.all ["one"] B room.hand (by decide) (w_ld F₈ rfl ⟨_, _, _, fun i h' => LawAt prog w h' l (h₈.objs.size :: h.objs.size :: X) (((us.map (·.2)).take i).foldl lawAway τ) ∧ h'.IsCell (h.objs.size + 1) (some (.ref l.sd)) ∧ ∀ z ∈ zs, LRow h' z.1 z.2, rfl, .inl p₈, F₈, hGL, ?_, ?_, ?_, ?_, ?_, ?_⟩))
        · intro m; exact Nat.lt_irrefl _ (Nat.lt_of_le_of_lt (sz F₆) (x.lt _ m))
        · intro a ha; exact ⟨x₈.lt a ha, fun e => hL (e ▸ ha)⟩
        · intro h' k'
          refine ⟨(x₈.add fun a ha => ?_).kept0 k', cell_kept cell₈ k' (by simp), fun z hz => (rows₈ z hz).kept k' (by simp)⟩
          rcases List.mem_cons.mp ha with rfl | ha
          · exact .inr (Nat.le_refl _)
          · exact .inl ha
        · rintro i h' h'' T ⟨a, b, r⟩ k' hT
          refine ⟨a.kept k' fun y hy => ?_, cell_kept b k' fun m => ?_, fun z hz => (r z hz).kept k' fun m => ?_⟩
          · rcases hT y hy with rfl | rfl
            · exact ⟨hL, .tail _ (.head _)⟩
            · exact ⟨fun m => Nat.lt_irrefl _ (x₈.lt _ m), .head _⟩
          · rcases hT _ m with e | e
            · exact Nat.succ_ne_self _ e
            · exact Nat.lt_irrefl _ (e ▸ cell_lt cell₈)
          · rcases hT _ m with e | e
            · exact nX₄ z hz (by rw [e]; exact List.mem_append_right _ List.mem_cons_self)
            · obtain ⟨_, _, _, _, pz, _⟩ := rows₈ z hz
              exact Nat.lt_irrefl _ (e ▸ pz.lt)
        · rintro i v h₉ m₉ hv ⟨x₉, cell₉, rows₉⟩ F₉ e₉ hone k₉ hI
          rw [List.getElem?_map] at hv
          obtain ⟨z, hz, rfl⟩ := Option.map_eq_some_iff.mp hv
          have hzs := hsub z (List.mem_of_getElem? hz)
          have hzi : (us.map (·.2))[i]? = some z.2 := by rw [List.getElem?_map, hz]; rfl
          have hmem := fold_mem (us.map (·.2)) Knd τ (fun r hr => (Kmem r hr).1) i z.2 hzi
          have hlen9 : (((us.map (·.2)).take i).foldl lawAway τ).rows.length ≤ 8 := (fold_lgood _ (Knd.sublist (List.take_sublist _ _)) τ g fun r hr => Kmem r (List.mem_of_mem_take hr)).len
          have hX9 : ∀ a ∈ h₈.objs.size :: h.objs.size :: X, a < h₉.objs.size := fun a ha => by
            rcases List.mem_cons.mp ha with rfl | ha
            · exact hI
            · exact hXl F₉ a ha
          refine w_cons (w_ExprAny (w_fcall B F₉.keep (by k_is) (by k_is) (w_items (w_ld F₉ ((e₉ _ (by decide)).trans rfl) (w_items (w_cell cell₉ (w_items (w_ld F₉ hone (w_items0 ⟨F₉.keep, c_law_away B F₉.keep room.deeper x₉ hX9 (rows₉ z hzs) (fun m => nX₄ z hzs (List.mem_append_left _ m)) hmem (by omega) fun h₁₀ k₁₀ x₁₀ => ?_⟩))))))))) 
          have F₁₀ := fk B F₉ k₁₀ hL x.lo
          refine w_nil ⟨⟨?_, cell_kept cell₉ k₁₀ hCl, fun z' hz' => (rows₉ z' hz').kept k₁₀ fun m => nX₄ z' hz' (List.mem_append_left _ m)⟩, ⟨_, F₁₀, e₉⟩, k₁₀.mono (by simp; exact fun a ha => .inr ha)⟩
          rw [List.take_add_one, hzi, List.foldl_append]; exact x₁₀
        · rintro h₉ m₉ ⟨x₉, cell₉, rows₉⟩ F₉ e₉ k₉
          have hlu : (us.map fun z => Value.ref z.1).length = (us.map (·.2)).length := by simp
          rw [hlu, List.take_length] at x₉
          have g₉ := fold_lgood _ Knd τ g Kmem
          have x₉ := x₉.leave
          refine w_nil (w_cons (w_ExprAny (w_fcall B F₉.keep (by k_is) (by k_is) (w_items (w_ld F₉ ((e₉ _ (by decide)).trans rfl) (w_items (w_cell cell₉ (w_items0 ⟨F₉.keep, c_law_cut B F₉.keep room.deeper x₉ (hXl F₉) g₉ fun h₁₀ k₁₀ x₁₀ => ?_⟩))))))))
          have F₁₀ := fk B F₉ k₁₀ hL x.lo
          have hG : h₆.objs.size ∉ l.all := fun m => Nat.lt_irrefl _ (Nat.lt_of_le_of_lt (sz F₆) (x.lt _ m))
          have p₁₀ := (p₈.kept k₉ (by
            simp only [List.mem_append, List.mem_cons, List.not_mem_nil, or_false, not_or]
            exact ⟨⟨hGL, Nat.ne_of_lt p₈.lt⟩, hG⟩)).kept k₁₀ hG
          refine w_cons (w_Return (s_told rfl (w_bcall B F₁₀.keep (by k_is) (by boot_by_name) (by decide) (w_items (w_ld F₁₀ ((e₉ _ (by decide)).trans rfl) (w_items0 (w_lenL p₁₀ (by simp; omega) fun t => ⟨.int (lawClear τ).2, ⟨t, by rw [K0]; simp⟩, sz F₁₀, fun h₁₁ V11 k₁₁ av => hq ?_ ?_ av⟩)))))) )
          · have k89 : Kept (l.all ++ [h.objs.size]) h h₉ := by
              refine Kept.drop (S := l.all ++ [h.objs.size]) (T := [h₈.objs.size]) ((k18.mono fun a ha => List.mem_append_left _ ha).trans (k₉.mono fun a ha => ?_)) fun a ha => ?_
              · simp only [List.mem_append, List.mem_cons, List.not_mem_nil, or_false] at ha ⊢
                rcases ha with (h | h) | h <;> simp [h]
              · rw [List.mem_singleton.mp ha]
                cases e : h.get? h₈.objs.size with
                | none => rfl
                | some o => exact absurd (Nat.lt_of_lt_of_le (Heap.lt_size e) (sz F₈)) (Nat.lt_irrefl _)
            exact Kept.fin ((k89.trans (k₁₀.mono inl)).trans k₁₁.nil)
          · rw [K0]; exact x₁₀.leave.kept0 k₁₁
  have e9 : (far % 4 == 0) = false := by simpa using c9
  first | refine if_no (by first | rfl | simp only [e9]) ?_ | simp only [e9, Bool.false_eq_true, if_false]
  -- if far % 4 == 1
  refine w_nil (w_cons (w_If (w_tCmp (w_BinOp (w_ld F₄ rfl (w_int fun t => w_mod (by decide) fun t => w_int fun u => w_eq (w_truthy ?_)))))))
  by_cases c10 : far % 4 = 1
  · have e10 : (far % 4 == 1) = true := by simpa using c10
    first | refine if_yes (by first | rfl | simp only [e10]) ?_ | simp only [e10, if_true]
    refine w_cons (w_Return (s_told rfl (w_ld F₄ rfl ⟨.bool _, rfl, sz F₄, fun h₆ V6 k₆ av => ?_⟩)))
    have := q h₆ V6 (Kept.fin (k14.trans k₆.nil))
    simp only [lawDue, c1, c2, if_false] at this
    rw [if_neg c5, if_neg c6, if_neg c9, if_pos c10] at this
    exact this (x₄.leave.kept0 k₆) av
  have e10 : (far % 4 == 1) = false := by simpa using c10
  first | refine if_no (by first | rfl | simp only [e10]) ?_ | simp only [e10, Bool.false_eq_true, if_false]
  -- if far // 4 % 13 == 0
  refine w_nil (w_cons (w_If (w_tCmp (w_BinOp (w_BinOp (w_ld F₄ rfl (w_int fun t => w_div (by decide) (by decide) fun t => w_int fun t => w_mod (by decide) fun t => w_int fun u => w_eq (w_truthy ?_))))))))
  by_cases c11 : far / 4 % 13 = 0
  · have e11 : (far / 4 % 13 == 0) = true := by simpa using c11
    first | refine if_yes (by first | rfl | simp only [e11]) ?_ | simp only [e11, if_true]
    refine w_cons (w_Return (s_mis (sz F₄) rfl fun h₆ V6 k₆ av => ?_))
    have := q h₆ V6 (Kept.fin (k14.trans k₆.nil))
    simp only [lawDue, c1, c2, if_false] at this
    rw [if_neg c5, if_neg c6, if_neg c9, if_neg c10, if_pos c11] at this
    exact this (x₄.leave.kept0 k₆) av
  have e11 : (far / 4 % 13 == 0) = false := by simpa using c11
  first | refine if_no (by first | rfl | simp only [e11]) ?_ | simp only [e11, Bool.false_eq_true, if_false]
  have hm : 1 ≤ far / 4 % 13 ∧ far / 4 % 13 ≤ 12 := by omega
  -- state['most'] = ..
  refine w_nil (w_cons (w_AssignSub (w_BinOp (w_BinOp (w_ld F₄ rfl (w_int fun t => w_div (by decide) (by decide) fun t => w_int fun t => w_mod (by decide) fun tm' => w_cell cell₄ (w_str fun t => w_sset d (by simp) fun h₅ d₅ k₅ => ?_)))))))
  have x₅ := x₄.setSt (m := far / 4 % 13) (g := τ.goal) k₅ ⟨_, _, d₅⟩
  have F₅ := fk B F₄ (k₅.mono (m1 l.m2)) hL x.lo
  have cell₅ := cell_kept cell₄ k₅ (fun m => hCl (m1 l.m2 _ m))
  obtain ⟨tm5, tg5, d5⟩ := x₅.st
  refine w_cons (w_AssignSub (w_bcall B F₅.keep (by k_is) (by boot_by_name) (by decide) (w_items (w_Sub (w_cell cell₅ (w_str fun t => w_sd d5 rfl (w_items (w_Sub (w_cell cell₅ (w_str fun t => w_sd d5 rfl (w_items0 (w_min room.hand fun h₆ t₆ k₆ => ?_)))))))))))) 
  have F₆ := fk0 F₅ k₆
  have x₆ := x₅.kept0 k₆
  have cell₆ := cell_kept cell₅ k₆ (by simp)
  refine w_cell cell₆ (w_str fun t => w_sset (d5.kept k₆ (by simp)) (by simp) fun h₇ d₇ k₇ => ?_)
  have x₇ := x₆.setSt (m := far / 4 % 13) (g := min τ.goal (far / 4 % 13)) k₇ ⟨_, _, d₇⟩
  have F₇ := fk B F₆ (k₇.mono (m1 l.m2)) hL x.lo
  have cell₇ := cell_kept cell₆ k₇ (fun m => hCl (m1 l.m2 _ m))
  have g₇ := g.resize hm
  refine w_cons (w_ExprAny (w_fcall B F₇.keep (by k_is) (by k_is) (w_items (w_ld F₇ rfl (w_items (w_cell cell₇ (w_items (w_int fun t => w_items (w_bool (w_items0 ⟨F₇.keep, c_law_out B F₇.keep room.deeper x₇ (hXl F₇) g₇ fun h₈ k₈ x₈ => ?_⟩))))))))))
  have F₈ := fk B F₇ k₈ hL x.lo
  have cell₈ := cell_kept cell₇ k₈ hCl
  refine w_cons (w_ExprAny (w_fcall B F₈.keep (by k_is) (by k_is) (w_items (w_ld F₈ rfl (w_items (w_cell cell₈ (w_items0 ⟨F₈.keep, c_law_cut B F₈.keep room.deeper x₈ (hXl F₈) (g₇.out 0 false) fun h₉ k₉ x₉ => ?_⟩)))))))
  have F₉ := fk B F₈ k₉ hL x.lo
  refine w_cons (w_Return (s_told rfl (w_none ⟨.none, rfl, sz F₉, fun h₁₀ V10 k₁₀ av => ?_⟩)))
  have := q h₁₀ V10 (Kept.fin ((((((k14.trans (k₅.mono fun a ha => inl a (m1 l.m2 a ha))).trans k₆.nil).trans (k₇.mono fun a ha => inl a (m1 l.m2 a ha))).trans (k₈.mono inl)).trans (k₉.mono inl)).trans k₁₀.nil))
  simp only [lawDue, c1, c2, if_false] at this
  rw [if_neg c5, if_neg c6, if_neg c9, if_neg c10, if_neg c11] at this
  exact this (x₉.leave.kept0 k₁₀) av
end
end Mine
end

section
open PySem PySem.W PyProof.Rows PySem.Calls
namespace Mine
abbrev misBm : List Value := [.ref 31, .type "Exception", .type "BaseException", .type "object"]
abbrev misObj : Obj := excClassObj "Misused" "Misused" 44 43 [.ref 31] misBm true [] [] false none none (some (.ref 35)) none (some (.str "Misused" 218)) (some (.str "Misused" 226)) (some (.bool true)) "Exception.__new__"
theorem misK (w : World) : (KF w.params).lookup 44 = some misObj := by k_is
/-! what Misused stands below, and what it does not -/
theorem mis_exc : (Value.ref 44 :: misBm).contains (.type "Exception") = true := by decide +kernel
theorem mis_base : (Value.ref 44 :: misBm).contains (.type "BaseException") = true := by decide +kernel
theorem mis_attr : (Value.ref 44 :: misBm).contains (.type "AttributeError") = false := by decide +kernel
theorem mis_name : (Value.ref 44 :: misBm).contains (.type "NameError") = false := by decide +kernel
theorem mis_below : misBm.contains (.type "BaseException") = true := by decide +kernel
theorem mis_self : (Value.ref 44 :: misBm).contains (.ref 44) = true := by decide +kernel

section
variable {M : Model} {A : Around} {E : Value → Shared → Prop} {h : Heap} {g : Array GenState} {d : Drawn} {t : Nat} {os : OsState}
theorem x_sub {X : Value} {b : Bool} {Q : Bool → Shared → Prop} (hC : h.get? 44 = some misObj) (e : (Value.ref 44 :: misBm).contains X = b) (q : Q b ⟨h, g, d, t, os⟩) : wpAny M A (isSubtype (.ref 44) X) Q E ⟨h, g, d, t, os⟩ :=
  wpAny_isSubtype_exc hC (e ▸ q)
end

abbrev excObj (t : Addr) : Obj := { cls := .ref 44, data := .fields #[.ref t, .none, .none, .none, .bool false, .none] }
/-- the heap with a Misused of these words, and the tuple of the words under it -/
abbrev excHeap (h : Heap) (rest : List Value) : Heap := (h.push { cls := .type "tuple", data := .seq rest.toArray }).push (excObj h.objs.size)
section
variable {prog : Program} {w : World} {A : Around} {R : Result → Shared → Prop} {h : Heap} {g : Array GenState} {d : Drawn} {t : Nat} {os : OsState}
theorem x_new {rest : List Value} (hC : h.get? 44 = some misObj) (hrest : rest.length ≤ sizeLine) (q : R (.ok (.ret (.ref (h.objs.size + 1)))) ⟨excHeap h rest, g, d, t, os⟩) :
    codeAny (model prog w) A (.builtin "Exception.__new__" ⟨.ref 44 :: rest, []⟩) R ⟨h, g, d, t, os⟩ := by
  have F := PySem.F.excBase_Exception
  have noOther := F.ends
  refine codeAny_builtinAt F.entry ?_
  unfold Builtin.«BaseException.__new__»
  refine PySem.wpAt_bind ?_
  show PySem.wpAt _ _ _ (stack >>= _) _ _ _
  refine PySem.wpAt_bind (PySem.wpAt_stack fun _ _ => PySem.wpAt_of_wpAny ?_)
  wp_walk
  refine PySem.wpAt_of_wpAny ?_
  rw [F.owner]
  wp_walk using wpAny_madeHere_exc F.canon hC, wpAny_loadPart_at hC, x_sub hC mis_exc, x_sub hC mis_attr, x_sub hC mis_name
  show R _ _
  rw [Heap.size_push]
  exact q
end
end Mine
end

section
open PySem PySem.W PyProof.Rows PySem.Calls
namespace Mine
theorem excHeap_keeps {h : Heap} {rest : List Value} {b : Addr} {o : Obj} (e : h.get? b = some o) : (excHeap h rest).get? b = some o := Heap.get?_push_of_some _ (Heap.get?_push_of_some _ e)
theorem excHeap_new (h : Heap) (rest : List Value) : (excHeap h rest).get? (h.objs.size + 1) = some (excObj h.objs.size) := by heap_get

section
variable {prog : Program} {w : World} {A : Around} {E : Value → Shared → Prop} {base h : Heap} {g : Array GenState} {d : Drawn} {t : Nat} {os : OsState}
/-- Misused has no `__init__` of its own: its base's stands at 28 -/
theorem x_type_call {rest : List Value} {Q : Fin → Shared → Prop} (B : Base w base) (kp : In0 base h) (hrest : rest.length ≤ sizeLine)
    (y : wpAny (model prog w) A (call (.ref 28) (.ref (h.objs.size + 1) :: rest)) (fun r s' => r = .none ∧ Q (.done (.ret (.ref (h.objs.size + 1)))) s') E ⟨excHeap h rest, g, d, t, os⟩) :
    wpAny (model prog w) A (Builtin.«type.__call__» ⟨.ref 44 :: rest, []⟩) Q E ⟨h, g, d, t, os⟩ := by
  have hC : h.get? 44 = some misObj := kp _ _ (B.X _ _ (misK w))
  have X : (KF w.params).In (excHeap h rest) := B.In (base := base) fun b o e => excHeap_keeps (kp b o e)
  wp_walk using wpAny_loadPart_at hC, wpAny_madeBy_exc hC
  refine codeAny_call_builtin_code (Code.quiet_builtin _ PySem.F.excBase_Exception.quiet) (wpAny_check_new_subU PySem.F.excBase_Exception (bmB := misBm) (by decide +kernel) .base hC (x_new hC hrest ?_))
  show wpAny _ _ _ _ _ _
  unfold isInstance
  wp_walk using wpAny_loadPart_at (excHeap_new h rest), x_sub (excHeap_keeps hC) mis_self
  refine Looks.at (looks_findIn X (by k_is : findIn _ (.ref 44) "__init__" = some (some (.ref 28)))) (wpAny_holding (wpAny_bind ?_))
  refine Looks.at (bind_fn X (.ref (h.objs.size + 1)) (by k_is : typeIn _ (.ref 28) = some (.type "function"))) (wpAny_bind (wpAny_mono y (fun r s' z => ?_) fun _ _ z => z))
  rw [z.1]
  wp_walk
  exact z.2

theorem x_call {rest : List Value} {Q : Value → Shared → Prop} (B : Base w base) (kp : In0 base h) (hrest : rest.length ≤ sizeLine)
    (y : wpAny (model prog w) (A.under (.builtin "type.__call__" ⟨.ref 44 :: rest, []⟩)) (call (.ref 28) (.ref (h.objs.size + 1) :: rest)) (fun r s' => r = .none ∧ Q (.ref (h.objs.size + 1)) s') E ⟨excHeap h rest, g, d, t, os⟩) :
    wpAny (model prog w) A (call (.ref 44) rest) Q E ⟨h, g, d, t, os⟩ := by
  have hC : h.get? 44 = some misObj := kp _ _ (B.X _ _ (misK w))
  have isType : (⟨h, g, d, t, os⟩ : Shared).TypeIs (.ref 44) "type" := ⟨_, hC, rfl⟩
  have typeCall := tc_lookup
  have typeBind := tc_bind (.ref 44)
  refine wpAny_call (codeAny_of_tree ?_)
  show wpAny _ _ (callAny (.ref 44) _) _ _ _
  wp_walk using wpAny_loadPart_at hC
  all_goals first | assumption | exact ⟨rfl, codeAny_call_builtin_at (Code.quiet_builtin _ (by decide +kernel)) entry_typeCall (wpAny_check_type_call_sub hC (x_type_call B kp hrest y))⟩
end
end Mine
end

section
open PySem PySem.W PyProof.Rows PySem.Calls
namespace Mine
section
variable {prog : Program} {w : World} {A : Around} {E : Value → Shared → Prop} {base h : Heap} {g : Array GenState} {d : Drawn} {t : Nat} {os : OsState}
theorem x_check_init {M : Model} {e t0 : Addr} {rest : List Value} {Q : Unit → Shared → Prop} (hC : h.get? 44 = some misObj) (he : h.get? e = some (excObj t0)) (q : Q () ⟨h, g, d, t, os⟩) :
    wpAny M A (checkBuiltinCall "Exception.__init__" ⟨.ref e :: rest, []⟩) Q E ⟨h, g, d, t, os⟩ := by
  have F := PySem.F.excBase_Exception
  have noStar := F.noStar
  have fine : ∀ (a b : String) (n : Nat), Bind.check ⟨.positional, "*", "Exception", .self, [⟨"args", .varPos, false⟩]⟩ a b n [] = pure () := fun _ _ _ => check_star_args _ _ _ _ _ _
  simp only [checkBuiltinCall, F.initKind, F.initSplit, F.initRow]
  wp_walk using wpAny_loadPart_at he, wpAny_loadPart_at hC, x_sub hC mis_exc
  refine wpAny_onRaise ?_
  simp only [List.map_nil, fine]
  exact wpAny_pure q

theorem x_init {e t0 : Addr} {rest : List Value} {Q : Value → Shared → Prop} (hC : h.get? 44 = some misObj) (he : h.get? e = some (excObj t0)) (hrest : rest.length ≤ sizeLine)
    (hq : ∀ h', Kept [e] h h' → h'.get? e = some (excObj h.objs.size) → h'.get? h.objs.size = some { cls := .type "tuple", data := .seq rest.toArray } → Q .none ⟨h', g, d, t, os⟩) :
    wpAny (model prog w) A (call (.builtin "Exception.__init__") (.ref e :: rest)) Q E ⟨h, g, d, t, os⟩ := by
  have F := PySem.F.excBase_Exception
  have hlt := Heap.lt_size he
  refine wpAny_call (codeAny_call_builtin F.init.plain F.initEntry (x_check_init hC he ?_))
  wp_walk
  refine hq _ (fun b o hb n => ?_) ?_ ?_
  · rw [Heap.get?_update_other _ _ (by simpa using Ne.symm (by simpa using n : b ≠ e))]
    exact Heap.get?_push_of_some _ hb
  · rw [Heap.get?_update_self _ (Heap.get?_push_of_some _ he) rfl]
    rfl
  · rw [Heap.get?_update_other _ _ (Nat.ne_of_lt hlt)]
    exact Heap.get?_push_at rfl rfl
end
end Mine
end

section
open PySem PySem.W PyProof.Rows PySem.Calls
namespace Mine
abbrev excObjD (t D : Addr) : Obj := { cls := .ref 44, dict := some D, data := .fields #[.ref t, .none, .none, .none, .bool false, .none] }
section
variable {prog : Program} {w : World} {A : Around} {E : Value → Shared → Prop} {base : Heap} {s : Shared}
theorem x_set_why {e t0 : Addr} {v : Value} {Q : Unit → Shared → Prop} (B : Base w base) (kp : In0 base s.heap) (he : s.heap.get? e = some (excObj t0))
    (hq : ∀ h' n es m, Kept [e] s.heap h' → h'.get? e = some (excObjD t0 s.heap.objs.size) → h'.get? s.heap.objs.size = some (dictOf es m) → getL "why" es = some (some v) → Q () { s with heap := h', toks := n }) :
    wpAny (model prog w) A (setAttr (.ref e) "why" v) Q E s := by
  have X := B.In kp
  have hC : s.heap.get? 44 = some misObj := kp _ _ (B.X _ _ (misK w))
  have I : InstAt s.heap e (excObj t0) 44 none := ⟨he, rfl, rfl, trivial⟩
  have hlt := Heap.lt_size he
  refine set_plain X I (by k_is) ?_
  obtain ⟨h, g, d, t, os⟩ := s
  dsimp only at *
  have SF := PySem.F.store_object
  have sub : Looks (model prog w) h (isInstance (.ref e) (.type "object")) true := I.type.andThen (looks_subIn X (by k_is))
  have hm : Looks (model prog w) h (mroOf (.ref 44)) (.ref 44 :: misBm) := by
    intro A' Q' E' s' k q
    obtain ⟨h', g', d', t', os'⟩ := s'
    exact wpAny_mroOf_exc (k _ _ hC) q
  refine codeAny_call_builtin SF.slot.plain SF.entry (@check_slot (model prog w) _ _ ⟨h, g, d, t + 1, os⟩ "object.__setattr__" "object" "__setattr__" (.ref e) [.str "why" t, v] [] _ SF.kind SF.split sub (SF.args (.ref e) (.str "why" t) v) ?_)
  rw [osa_eq, refuse_eq]
  refine wpAny_bind (wpAny_bind (I.type.at (wpAny_bind (hm.at ?_))))
  rw [refuseLoop_ref, refuseLoop_ref, PySem.F.store_Exception.passes]
  refine wpAny_pure (wpAny_bind (I.type.at (wpAny_bind ((looks_findIn X (by k_is : findIn _ (.ref 44) "why" = some none)).at (wpAny_bind ?_)))))
  refine wpAny_pure ?_
  obtain ⟨cd, hc, hd'⟩ := any_some (by k_is : hasDictIn (KF w.params) 44 = true)
  refine wpAny_bind (wpAny_pure (wpAny_bind (wpAny_bind (wpAny_loadPart he (wpAny_bind ((looks_clsIn X hc).at ?_))))))
  rw [hd']
  have hes : e ≠ h.objs.size := Nat.ne_of_lt hlt
  have he₁ : (h.push { cls := .type "dict", data := .dict #[] }).get? e = some (excObj t0) := Heap.get?_push_of_some _ he
  refine wpAny_bind (wpAny_alloc (wpAny_bind (wpAny_update he₁ (wpAny_pure (wpAny_bind ?_)))))
  generalize hh2 : (h.push { cls := .type "dict", data := .dict #[] }).update e (fun o => { cls := o.cls, dict := some h.objs.size, data := o.data, slots := o.slots }) = h₂
  have he₂ : h₂.get? e = some (excObjD t0 h.objs.size) := by rw [← hh2]; exact Heap.get?_update_self _ he₁ rfl
  have hd₂ : h₂.get? h.objs.size = some (dictOf [] 0) := by rw [← hh2]; exact (Heap.get?_update_ne _ _ _ _ hes.symm).trans (Heap.get?_push_at rfl rfl)
  have hne₂ : h.objs.size ≠ e := hes.symm
  refine wpAny_pure (a := ()) (wpAny_bind ?_)
  unfold nsSet
  dsimp only
  refine wpAny_bind (wpAny_bind (wpAny_askSetting (wpAny_pure (wpAny_bind (wpAny_mkText (wpAny_bind (wpAny_loadPart hd₂ ?_)))))))
  dsimp only
  have c : (!([] : List DictEntry).toArray.any (·.key.isStr "why") && ([] : List DictEntry).toArray.any (·.refKey)) = false := by simp
  rw [aRefKeyMayBeTheName_at, c]
  have D' : (h₂.update h.objs.size (Obj.putName "why" (PyData.keyHash w.params "why") (.str "why" (t + 1)) v)).get? h.objs.size = some (dictOf (putL "why" (PyData.keyHash w.params "why") (.str "why" (t + 1)) v []) (putN "why" [] 0)) := by
    rw [← putName_dict]
    exact Heap.get?_update_self _ hd₂ (by rw [putName_dict]; rfl)
  refine wpAny_updatePart hd₂ ?_
  refine wpAny_bind (wpAny_lookBehind D' (pastItsLine_dict (by rw [List.size_toArray, sizeLine_eq]; exact Nat.le_of_ble_eq_true rfl)) ?_)
  refine wpAny_pure (hq _ _ _ _ ?_ ?_ D' ?_)
  · intro b o hb n
    have nb : b ≠ h.objs.size := Nat.ne_of_lt (Heap.lt_size hb)
    rw [Heap.get?_update_other _ _ nb.symm, ← hh2, Heap.get?_update_other _ _ (by simpa using Ne.symm (by simpa using n : b ≠ e))]
    exact Heap.get?_push_of_some _ hb
  · rw [Heap.get?_update_other _ _ hne₂]; exact he₂
  · exact getL_putL (l := []) (fun y => rfl) "why"
end
end Mine
end

section
open PySem PySem.W PyProof.Rows PySem.Calls
namespace Mine
section
variable {prog : Program} {w : World} {c : Cx} {A : Around} {E : Value → Heap → Prop} {R : Result → Heap → Prop} {base h : Heap} {env : Env}

/-- Exception.__init__(e, x) -/
theorem w_excInit {L : Addr} {m : Str → Option Value} {xp apos pos : Pos} {e : Expr} {rest : List Expr} {pl : Sem Bool} {Q : Value → Heap → Prop} (B : Base w base) (F : Fr base L h m)
    (y : W prog w c A (spliced (backTo pos (starEach (e :: rest) env))) (fun vs h₁ => ∃ x t0 vs', vs = .ref x :: vs' ∧ h₁.get? 44 = some misObj ∧ h₁.get? x = some (excObj t0) ∧ vs'.length ≤ 100 ∧
      ∀ h', Kept [x] h₁ h' → h'.get? x = some (excObj h₁.objs.size) → h'.get? h₁.objs.size = some { cls := .type "tuple", data := .seq vs'.toArray } → Q .none h') E h)
    (hk : env.scope.kind = .function := by rfl) (hx : env.kindOf ("Exception" : Str) = some .globalImplicit := by rfl) (hg : env.globals = mainGlobals := by rfl) (hb : env.builtins = builtinsNs := by rfl)
    (he : eval (.Call (.Attribute (.Name "Exception" xp) "__init__" apos) (e :: rest) [] pos) env = (do
      let ov ← eval (.Name "Exception" xp) env
      standAt apos.atName
      let (f, first) ← holding [ov] (getMethod ov "__init__" pl)
      callWith pos f first (backTo pos (starEach (e :: rest) env)) (backToKw pos (keywordEach [] env))) := by rfl)
    (hst : starEach (e :: rest) env = (false, eval e env) :: starEach rest env := by rfl) (hplain : (backTo pos (starEach rest env)).any (·.1) = false := by rfl) :
    W prog w c A (eval (.Call (.Attribute (.Name "Exception" xp) "__init__" apos) (e :: rest) [] pos) env) Q E h := by
  refine ⟨fun n => methodCall_KW (pl := pl) ((w_blt (Q := fun v h' => v = .type "Exception" ∧ h' = h) B F.keep (by k_is) (by boot_by_name) (by decide) ⟨rfl, rfl⟩ hk hx hg hb (by decide)).go fun ov h₁ n₁ q => ?_) he⟩
  obtain ⟨rfl, rfl⟩ := q
  refine method_type (s := c.st h₁ n₁) F B.X (by simp only [typeOf]; rfl) (by decide +kernel) (by k_is : findCls _ (.type "Exception") (.type "type") "__init__" = some (.val (.builtin "Exception.__init__"))) rfl ?_
  refine PyProof.Rows.callWith_builtin1 ((y.out (n₁ + 1)) |> fun z => wpAny_mono z (fun vs s' z => ?_) fun _ _ z => z) hst hplain
  obtain ⟨h₂, n₂, rfl, x, t0, vs', rfl, hC, hx', hl, q⟩ := z
  exact x_init hC hx' (by rw [sizeLine_eq]; omega) fun h' k a b => ⟨h', _, rfl, q h' k a b⟩

theorem c_fault_init {x t0 : Addr} {why : Str} {wt : Tok} (B : Base w base) (kp : In0 base h) (room : Room A 1) (hx : h.get? x = some (excObj t0)) (hlo : 350 ≤ x)
    (q : ∀ h' t D es m, Kept [x] h h' → h'.get? x = some (excObjD t D) → h'.get? D = some (dictOf es m) → getL "why" es = some (some (.str why wt)) → h.get? t = none → R (.ok (.ret .none)) h') :
    C prog w c A (.call (.ref 28) ⟨[.ref x, .str why wt], []⟩) R h := by
  refine cf [("self", .ref x), ("why", .str why wt)] B kp room (by k_is) (by k_is) (fun _ _ => BindsTo.of_eq rfl) (locs rfl) (fun h₁ F k₁ => ?_)
  have hx₁ := k₁.all _ _ hx
  have hLx : h.objs.size ∉ [x] := by simp; exact Nat.ne_of_gt (Heap.lt_size hx)
  have hlo' : ∀ a ∈ [x], 350 ≤ a := by simpa using hlo
  refine w_cons (w_ExprAny (w_excInit B F (w_items (w_ld F rfl (w_items (w_ld F rfl (w_items0 ⟨x, t0, _, rfl, F.keep _ _ (B.X _ _ (misK w)), hx₁, by simp, fun h₂ k₂ hx₂ ht₂ => ?_⟩)))))))
  have F₂ := fk B F k₂ hLx hlo'
  refine w_cons (w_AssignAttr (w_ld F₂ rfl (w_ld F₂ rfl ⟨fun n => x_set_why (s := c.st h₂ n) B F₂.keep hx₂ fun h₃ n₃ es m k₃ hx₃ hd₃ hg₃ => ⟨h₃, n₃, rfl, ?_⟩⟩)))
  refine w_nil (q h₃ _ _ es m ?_ hx₃ hd₃ hg₃ ?_)
  · exact Kept.fin ((k₁.nil.trans (k₂.mono (by simp))).trans (k₃.mono (by simp)))
  · cases e : h.get? h₁.objs.size with
    | none => rfl
    | some o => exact absurd (Heap.lt_size (k₁.all _ _ e)) (Nat.lt_irrefl _)
end
end Mine
end

section
open PySem PySem.W PyProof.Rows PySem.Calls
namespace Mine
/-- the exception object: its words, its trace, its dict -/
abbrev excT (t D : Addr) (T : Value) : Obj := { cls := .ref 44, dict := some D, data := .fields #[.ref t, T, .none, .none, .bool false, .none] }
/-- an entry of a trace, and where it flies -/
def TB (h : Heap) (T : Addr) (fl : Value) : Prop := ∃ oT ts, h.get? T = some oT ∧ oT.data = .fields ts ∧ ts[3]? = some fl
/-- frames change their slots only, X whatever, all else stands -/
def KS (S X : List Addr) (h h' : Heap) : Prop := ∀ b o, h.get? b = some o → b ∉ X → (∃ sl, h'.get? b = some { o with slots := sl }) ∧ (b ∉ S → h'.get? b = some o)
theorem KS.mono {S S' X X' : List Addr} {h h' : Heap} (k : KS S X h h') (hS : ∀ a ∈ S, a ∈ S') (hX : ∀ a ∈ X, a ∈ X') : KS S' X' h h' := fun b o e n =>
  let ⟨a, c⟩ := k b o e fun m => n (hX b m); ⟨a, fun m => c fun q => m (hS b q)⟩
theorem KS.trans {S X : List Addr} {h h' h'' : Heap} (k : KS S X h h') (k' : KS S X h' h'') : KS S X h h'' := fun b o e n => by
  obtain ⟨⟨sl, a⟩, c⟩ := k b o e n
  obtain ⟨⟨sl', a'⟩, c'⟩ := k' b _ a n
  refine ⟨⟨sl', a'⟩, fun m => ?_⟩
  have := (k' b _ (c m) n).2 m
  exact this
theorem KS.of_kept {S X : List Addr} {h h' : Heap} (k : Kept X h h') : KS S X h h' := fun b o e n => ⟨⟨o.slots, k b o e n⟩, fun _ => k b o e n⟩
theorem KS.kept {S X : List Addr} {h h' : Heap} (k : KS S X h h') : Kept (S ++ X) h h' := fun b o e n => (k b o e fun m => n (List.mem_append_right _ m)).2 fun m => n (List.mem_append_left _ m)
theorem KS.fr {w : World} {S X : List Addr} {base h h' : Heap} {L : Addr} {m : Str → Option Value} (B : Base w base) (k : KS S X h h') (F : Fr base L h m) (hL : L ∉ X) (hS : ∀ a ∈ S, 350 ≤ a) (hX : ∀ a ∈ X, 350 ≤ a) : Fr base L h' m := by
  obtain ⟨⟨o, es, ep, e, hd, r⟩, kp, ab⟩ := F
  obtain ⟨⟨sl, q⟩, _⟩ := k L o e hL
  refine ⟨⟨_, es, ep, q, hd, r⟩, k.kept.in0 B kp fun a m => ?_, ab⟩
  rcases List.mem_append.mp m with m | m
  · exact hS a m
  · exact hX a m
theorem FF_keep {base h h' : Heap} {S X : List Addr} (k : KS S X h h') : ∀ {l : List Env}, h.FunFrames base l → (∀ a ∈ l.filterMap (·.frame), a ∉ X) → h'.FunFrames base l
  | [], _, _ => trivial
  | env :: rest, ⟨hk, ⟨L, o, hf, hn, ho, hd⟩, hr⟩, hX => by
    have e : (env :: rest).filterMap (·.frame) = L :: rest.filterMap (·.frame) := by rw [List.filterMap_cons, hf]
    rw [e] at hX
    obtain ⟨⟨sl, q⟩, _⟩ := k L o ho (hX L (by simp))
    exact ⟨hk, ⟨L, _, hf, hn, q, hd⟩, FF_keep k hr fun a m => hX a (List.mem_cons_of_mem _ m)⟩
theorem FF_not {base h : Heap} {l : List Env} {e : Addr} {o : Obj} {vs : Array Value} (hl : h.FunFrames base l) (he : h.get? e = some o) (hd : o.data = .fields vs) : e ∉ l.filterMap (·.frame) := fun m => by
  obtain ⟨_, o', ho, hn⟩ := hl.mem m
  rw [he] at ho; cases ho; exact hn vs hd
theorem TB.not {base h : Heap} {T : Addr} {fl : Value} {l : List Env} (x : TB h T fl) (hl : h.FunFrames base l) : T ∉ l.filterMap (·.frame) := let ⟨_, _, a, b, _⟩ := x; FF_not hl a b

section
variable {M : Model} {A : Around} {E : Value → Shared → Prop} {s : Shared} {base : Heap} {env : Env} {outer : List Env} {L e t D : Addr}
abbrev fs (l : List Env) : List Addr := l.filterMap (·.frame)

theorem x_entry {head T0 : Value} {hadNext : Bool} {Q : Unit → Shared → Prop} (hfr : A.frames = some (env :: outer)) (hl : s.heap.FunFrames base (env :: outer)) (hf : env.frame = some L) (he : s.heap.get? e = some (excT t D T0))
    (h : ∀ h', KS (fs (env :: outer)) [e] s.heap h' → h'.get? e = some (excT t D (.ref s.heap.objs.size)) → TB h' s.heap.objs.size (rawInt L) → h'.FunFrames base (env :: outer) → Q () { s with heap := h' }) :
    wpAny M A (do let a ← frameOf env; let pl ← entryPlaceOf L hadNext; let b ← EntryCells.newEntry head a .none (rawInt L) .none pl; setField (.ref e) 1 b) Q E s := by
  have hne := FF_not hl he rfl
  refine wpAny_bind (wpAny_frameOf_fun hfr hl hf fun h₁ hs => wpAny_bind (wpAny_entryPlaceOf fun pl hpl => ?_))
  unfold EntryCells.newEntry newFields
  refine wpAny_bind (wpAny_newObj_type ?_ (hpl.sizeOk5 _ _ _ _ _))
  have he₁ : h₁.get? e = some (excT t D T0) := (hs.2.1 e hne).trans he
  have hlt : e < h₁.objs.size := Heap.lt_size he₁
  generalize hob : ({ cls := .type "traceback", dict := none, data := .fields ([head, .ref L, .none, rawInt L, .none] ++ (if pl.isEmpty then List.replicate 6 Value.none else pl)).toArray } : Obj) = ob
  have hts : ∃ ts, ob.data = .fields ts ∧ ts[3]? = some (rawInt L) := by rw [← hob]; exact ⟨_, rfl, by simp⟩
  have hof : ob.isFreed = false := by rw [← hob]; rfl
  have he₂ := Heap.get?_push_of_some (h := h₁) ob he₁
  have hx := wpAny_setField (M := M) (A := A) (E := E) (s := { s with heap := h₁.push ob }) (a := e) (i := 1) (x := .ref h₁.objs.size) (Q := Q) he₂ rfl (by show 1 < 6; decide)
  refine hx ?_
  have kk : KS (fs (env :: outer)) [e] s.heap ((h₁.push ob).update e (Obj.mapFields (·.setIfInBounds 1 (Value.ref h₁.objs.size)))) := fun b o hb hn => by
    have hbe : b ≠ e := by simpa using hn
    obtain ⟨sl, q⟩ := hs.2.2 b o hb
    refine ⟨⟨sl, ?_⟩, fun m => ?_⟩
    · rw [Heap.get?_update_other _ _ hbe.symm]; exact Heap.get?_push_of_some _ q
    · rw [Heap.get?_update_other _ _ hbe.symm]; exact Heap.get?_push_of_some _ ((hs.2.1 b m).trans hb)
  refine h _ kk ?_ ?_ (FF_keep kk hl fun a m => by simp; exact fun q => hne (q ▸ m))
  · rw [← hs.1]
    exact Heap.get?_update_self _ he₂ rfl
  · rw [← hs.1]
    obtain ⟨ts, hd, h3⟩ := hts
    refine ⟨ob, ts, ?_, hd, h3⟩
    rw [Heap.get?_update_other _ _ (Nat.ne_of_lt hlt)]
    exact Heap.get?_push_at rfl hof

theorem x_fly {T : Addr} {fl : Value} {Q : Unit → Shared → Prop} (he : s.heap.get? e = some (excT t D (.ref T))) (hT : TB s.heap T fl) (hne : T ≠ e)
    (h : ∀ h', KS [] [T] s.heap h' → h'.get? e = some (excT t D (.ref T)) → TB h' T .none → Q () { s with heap := h' }) : wpAny M A (setFlight (.ref e) none) Q E s := by
  obtain ⟨oT, ts, a, b, c⟩ := hT
  have hsz : 3 < ts.size := (Array.getElem?_eq_some_iff.mp c).1
  unfold setFlight
  refine wpAny_bind (wpAny_field he rfl (x := .ref T) rfl ?_)
  rw [if_pos (show (Value.ref T != Value.none) = true from by simp)]
  refine wpAny_setField a b hsz (h _ (fun x o hb hn => ?_) ?_ ⟨_, _, Heap.get?_update_self _ a (Obj.isFreed_of_fields (Obj.data_mapFields b _)), Obj.data_mapFields b _, by simp [hsz]⟩)
  · have hx : x ≠ T := by simpa using hn
    have : (s.heap.update T (Obj.mapFields (·.setIfInBounds 3 ((none : Option Addr).elim Value.none fun f => rawInt f)))).get? x = some o := (Heap.get?_update_other _ _ hx.symm).trans hb
    exact ⟨⟨o.slots, this⟩, fun _ => this⟩
  · exact (Heap.get?_update_other _ _ hne).trans he

/-- a frame is left by a new exception -/
theorem x_leave {Q : Unit → Shared → Prop} (hfr : A.frames = some (env :: outer)) (hl : s.heap.FunFrames base (env :: outer)) (hf : env.frame = some L) (he : s.heap.get? e = some (excT t D .none))
    (h : ∀ h', KS (fs (env :: outer)) [e] s.heap h' → h'.get? e = some (excT t D (.ref s.heap.objs.size)) → TB h' s.heap.objs.size .none → h'.FunFrames base (env :: outer) → Q () { s with heap := h' }) : wpAny M A (leaving env (.ref e)) Q E s := by
  unfold leaving noteFrame
  simp only [hf]
  refine wpAny_bind (wpAny_bind (wpAny_field he rfl (x := .none) rfl ?_))
  rw [if_neg (by decide)]
  refine x_entry hfr hl hf he fun h₁ k₁ he₁ T₁ l₁ => ?_
  have hne : s.heap.objs.size ≠ e := Nat.ne_of_gt (Heap.lt_size he)
  refine x_fly he₁ T₁ hne fun h₂ k₂ he₂ T₂ => ?_
  have k : KS (fs (env :: outer)) [e] s.heap h₂ := fun b o hb hn => by
    obtain ⟨⟨sl, q⟩, r⟩ := k₁ b o hb hn
    have hb' : b ∉ [s.heap.objs.size] := by simp; exact Nat.ne_of_lt (Heap.lt_size hb)
    obtain ⟨⟨sl', q'⟩, r'⟩ := k₂ b _ q hb'
    refine ⟨⟨sl', q'⟩, fun m => ?_⟩
    exact (k₂ b _ (r m) hb').2 (by simp)
  exact h h₂ k he₂ T₂ (FF_keep (k₂.mono (S' := fs (env :: outer)) (by simp) fun _ m => m) l₁ fun a m q => by
    rw [List.mem_singleton] at q; subst q
    exact T₁.not l₁ m)

/-- the frame that catches it writes itself down -/
theorem x_look {T : Addr} {Q : Unit → Shared → Prop} (hfr : A.frames = some (env :: outer)) (hl : s.heap.FunFrames base (env :: outer)) (hf : env.frame = some L) (he : s.heap.get? e = some (excT t D (.ref T))) (hT : TB s.heap T .none) (hne : T ≠ e)
    (h : ∀ h', KS (fs (env :: outer)) [e, T] s.heap h' → h'.get? e = some (excT t D (.ref s.heap.objs.size)) → TB h' s.heap.objs.size (rawInt L) → h'.FunFrames base (env :: outer) → Q () { s with heap := h' }) : wpAny M A (noteFrame (.ref e) env) Q E s := by
  have hTl := hT.not hl
  obtain ⟨oT, ts, a, b, c⟩ := hT
  have hsz : 3 < ts.size := (Array.getElem?_eq_some_iff.mp c).1
  unfold noteFrame
  simp only [hf]
  refine wpAny_bind (wpAny_field he rfl (x := .ref T) rfl ?_)
  rw [if_pos (show (Value.ref T != Value.none) = true from by simp)]
  refine wpAny_bind (wpAny_field a b c ?_)
  rw [if_neg (show ¬ ((Value.none == rawInt L) = true) from by simp [rawInt])]
  refine wpAny_bind (wpAny_setField a b hsz ?_)
  generalize hh : s.heap.update T (Obj.mapFields (·.setIfInBounds 3 Value.none)) = h₁
  have hs₁ : h₁.objs.size = s.heap.objs.size := by rw [← hh]; exact Heap.size_after_update ..
  have k₁ : KS (fs (env :: outer)) [e, T] s.heap h₁ := fun x o hb hn => by
    have hx : x ≠ T := fun q => hn (by simp [q])
    have : h₁.get? x = some o := by rw [← hh]; exact (Heap.get?_update_other _ _ hx.symm).trans hb
    exact ⟨⟨o.slots, this⟩, fun _ => this⟩
  have he₁ : h₁.get? e = some (excT t D (.ref T)) := by rw [← hh]; exact (Heap.get?_update_other _ _ hne).trans he
  have hel := FF_not hl he rfl
  have l₁ := FF_keep k₁ hl fun x m q => by
    rcases List.mem_cons.mp q with q | q
    · exact hel (q ▸ m)
    · rw [List.mem_singleton] at q; exact hTl (q ▸ m)
  refine x_entry (s := { s with heap := h₁ }) hfr l₁ hf he₁ fun h₂ k₂ he₂ T₂ l₂ => ?_
  dsimp only at *
  rw [hs₁] at he₂ T₂
  exact h h₂ (k₁.trans (k₂.mono (fun _ m => m) (by simp))) he₂ T₂ l₂
end
end Mine
end

section
open PySem PySem.W PyProof.Rows PySem.Calls
namespace Mine
section
variable {prog : Program} {w : World} {c : Cx} {A : Around} {E : Value → Heap → Prop} {base h : Heap} {env : Env}
theorem w_misused {why : Str} {xp cp pos : Pos} {k : Nat} {Q : Value → Heap → Prop} (B : Base w base) (kp : In0 base h) (room : Room A 2)
    (q : ∀ h' t D es m wt, Kept [] h h' → h'.get? (h.objs.size + 1) = some (excT t D .none) → h'.get? D = some (dictOf es m) → getL "why" es = some (some (.str why wt)) → Q (.ref (h.objs.size + 1)) h')
    (hk : env.scope.kind = .function := by rfl) (hx : env.kindOf ("Misused" : Str) = some .globalImplicit := by rfl) (hg : env.globals = mainGlobals := by rfl)
    (hc : eval (.Call (.Name "Misused" xp) [.Constant (.str why) k cp] [] pos) env = (do callWith pos (← eval (.Name "Misused" xp) env) [] (backTo pos (starEach [.Constant (.str why) k cp] env)) (backToKw pos (keywordEach [] env))) := by rfl)
    (he : starEach [.Constant (.str why) k cp] env = (false, eval (.Constant (.str why) k cp) env) :: starEach [] env := by rfl) :
    W prog w c A (eval (.Call (.Name "Misused" xp) [.Constant (.str why) k cp] [] pos) env) Q E h := by
  refine ⟨fun n => Call_ ((w_glob (Q := fun v h' => v = .ref 44 ∧ h = h') B kp (by k_is) ⟨rfl, rfl⟩ hk hx hg (by decide)).go fun v h' n' z => ?_) hc⟩
  obtain ⟨rfl, rfl⟩ := z
  refine callWith_K (K := KF w.params) (B.In kp) (by k_is) ((w_items (Q := fun vs h₁ => ∃ wt, vs = [.str why wt] ∧ h = h₁) (w_str fun wt => w_items0 ⟨wt, rfl, rfl⟩) he).go fun vs h₁ n z => ?_) he rfl
  obtain ⟨wt, rfl, rfl⟩ := z
  refine ⟨B.In kp, ?_⟩
  refine x_call (prog := prog) (w := w) (A := A) (rest := [.str why wt]) B kp (by rw [sizeLine_eq]; exact Nat.le_of_ble_eq_true rfl) ?_
  have k₁ : Kept [] h ((h.push { cls := .type "tuple", data := .seq [Value.str why wt].toArray }).push (excObj h.objs.size)) := (Kept.push _ _).trans (Kept.push _ _)
  have hget : ((h.push { cls := .type "tuple", data := .seq [Value.str why wt].toArray }).push (excObj h.objs.size)).get? (h.objs.size + 1) = some (excObj h.objs.size) := by heap_get
  have hlo : 350 ≤ h.objs.size + 1 := by have := B.ge kp; rw [B.size] at this; omega
  refine wpAny_mono ((w_call (Q := fun v h' => v = .none ∧ Q (.ref (h.objs.size + 1)) h') (E := E) (c_fault_init (c := c) (why := why) (wt := wt) B (k₁.in0 B kp (by simp)) (room.make 44 _ (m := 1)) hget hlo ?_)).out n) (fun v s' z => ?_) fun _ _ z => z
  · intro h' t D es m kk a b g _
    refine ⟨rfl, q h' t D es m wt ?_ a b g⟩
    intro x o e nx
    refine kk x o (k₁ x o e nx) ?_
    simp
    exact Nat.ne_of_lt (Nat.lt_succ_of_lt (Heap.lt_size e))
  · obtain ⟨h', n', rfl, rfl, z⟩ := z
    exact ⟨rfl, h', n', rfl, z⟩

theorem w_Raise {e : Expr} {pos : Pos} {Q : Flow → Heap → Prop} (hh : A.handled = none) (y : W prog w c A (eval e env) (fun v h' => ∃ a t D, v = .ref a ∧ h'.get? 44 = some misObj ∧ h'.get? a = some (excT t D .none) ∧ E (.ref a) h') E h) :
    W prog w c A (exec (.Raise (some e) none pos) env) Q E h := ⟨fun n => by
  rw [arm_exec_Raise]
  unfold raiseStmt
  refine wpAny_bind (wpAny_standAt (wpAny_bind (wpAny_bind (wpAny_mono (y.out n) (fun v s' z => ?_) fun _ _ z => z))))
  obtain ⟨h', n', rfl, a, t, D, rfl, hC, hA, z⟩ := z
  refine wpAny_bind (wpAny_standAt (wpAny_pure ?_))
  wp_walk using wpAny_loadPart_at hA, wpAny_loadPart_at hC, x_sub hC mis_base
  exact wpAny_raiseNew_none hh ⟨h', n', rfl, z⟩⟩
end
end Mine
end

section
open PySem PySem.W PyProof.Rows PySem.Calls
namespace Mine
/-- a dict with the words -/
def WhyAt (h : Heap) (D : Addr) (why : Str) : Prop := ∃ o wt, h.get? D = some o ∧ lookIn "why" o = some (some (.str why wt)) ∧ ∀ vs, o.data ≠ .fields vs
theorem WhyAt.keep {S X : List Addr} {h h' : Heap} {D : Addr} {why : Str} (x : WhyAt h D why) (k : KS S X h h') (hX : ∀ a ∈ X, ∃ o vs, h.get? a = some o ∧ o.data = .fields vs) : WhyAt h' D why := by
  obtain ⟨o, wt, a, b, cc⟩ := x
  obtain ⟨⟨sl, q⟩, _⟩ := k D o a fun m => by
    obtain ⟨o', vs, e, d⟩ := hX D m
    rw [a] at e; cases e; exact cc vs d
  exact ⟨_, wt, q, b, cc⟩

/-- an exception has left a call made on h -/
structure Rz (base : Heap) (outer : List Env) (h h' : Heap) (e : Addr) (why : Str) : Prop where
  ks : KS (fs outer) [] h h'
  ff : h'.FunFrames base outer
  ge : h.objs.size ≤ e
  at_ : ∃ t D T, h'.get? e = some (excT t D (.ref T)) ∧ TB h' T .none ∧ T ≠ e ∧ h.objs.size ≤ T ∧ WhyAt h' D why

theorem none_ge {h : Heap} {a : Addr} (x : h.objs.size ≤ a) : h.get? a = none := by
  cases e : h.get? a with
  | none => rfl
  | some o => exact absurd (Heap.lt_size e) (Nat.not_lt.mpr x)

section
variable {prog : Program} {w : World} {c : Cx} {A : Around} {base h h₁ : Heap} {outer : List Env}

theorem cfE {R : Result → Heap → Prop} {name qual : Str} {params : Arguments} {body : List Stmt} {scope : Scope} {dV kV doc pm cdv ct oc : Value} {an od : Option Addr} {osl : Array (Option Value)} {f : Addr} {args : Args} {n : Nat}
    (binds : List (Str × Value)) (B : Base w base) (kp : In0 base h) (room : Room A n)
    (ho : (KF w.params).lookup f = some ⟨oc, od, .func (fnOf name qual params body scope dV kV doc pm an cdv ct), osl⟩) (hcd : codeIn (KF w.params) cdv qual = true)
    (hbind : ∀ s : Shared, s.heap = h → BindsTo s (fnOf name qual params body scope dV kV doc pm an cdv ct) args binds) (hloc : ∀ y ∈ binds, scope.names.lookup y.1 = some .local)
    (x : ∀ h₁, Fr base h.objs.size h₁ (fun y => binds.reverse.lookup y) → Kept [] h h₁ →
      W prog w c (A.deeper (envOf qual scope h.objs.size f cdv)) (execs body (envOf qual scope h.objs.size f cdv)) (fun fl h' => R (.ok (.ret (match fl with | .ret v => v | _ => .none))) h')
        (fun e h' => W prog w c (A.deeper (envOf qual scope h.objs.size f cdv)) (leaving (envOf qual scope h.objs.size f cdv) e) (fun _ h'' => R (.error e) h'') (fun _ _ => False) h') h₁)
    (hco : scope.isCoroutine = false := by rfl) (hgen : scope.isGenerator = false := by rfl) (hk : scope.kind = .function := by rfl)
    (hcell : ∀ x ∈ scope.names, x.2 ≠ .cell := by decide) : C prog w c A (.call (.ref f) args) R h :=
  ⟨fun n => callf (s := c.st h n) binds B kp room ho hcd (hbind _ rfl) hloc (fun h₁ F k =>
    wpAny_mono ((x h₁ F k).out _) (fun _ _ y => y) fun e s' ⟨h', n', e', y⟩ => by
      subst e'
      exact wpAny_mono (y.out n') (fun _ _ z => z) fun _ _ ⟨_, _, _, z⟩ => z.elim) hco hgen hk hcell⟩

theorem w_refuse {qual : Str} {scope : Scope} {f : Addr} {cdv : Value} {m : Str → Option Value} {why : Str} {xp cp pos rp : Pos} {k n : Nat} {Q : Flow → Heap → Prop} (B : Base w base) (F : Fr base h.objs.size h₁ m) (k₁ : Kept [] h h₁) (room : Room A (n + 3)) (hfr : A.frames = some outer) (ff : h.FunFrames base outer)
    (hk : scope.kind = .function := by rfl) (hx : (envOf qual scope h.objs.size f cdv).kindOf ("Misused" : Str) = some .globalImplicit := by rfl)
    (hc : eval (.Call (.Name "Misused" xp) [.Constant (.str why) k cp] [] pos) (envOf qual scope h.objs.size f cdv) = (do callWith pos (← eval (.Name "Misused" xp) (envOf qual scope h.objs.size f cdv)) [] (backTo pos (starEach [.Constant (.str why) k cp] (envOf qual scope h.objs.size f cdv))) (backToKw pos (keywordEach [] (envOf qual scope h.objs.size f cdv)))) := by rfl)
    (he : starEach [.Constant (.str why) k cp] (envOf qual scope h.objs.size f cdv) = (false, eval (.Constant (.str why) k cp) (envOf qual scope h.objs.size f cdv)) :: starEach [] (envOf qual scope h.objs.size f cdv) := by rfl) :
    W prog w c (A.deeper (envOf qual scope h.objs.size f cdv)) (execs [.Raise (some (.Call (.Name "Misused" xp) [.Constant (.str why) k cp] [] pos)) none rp] (envOf qual scope h.objs.size f cdv)) Q
      (fun e h' => W prog w c (A.deeper (envOf qual scope h.objs.size f cdv)) (leaving (envOf qual scope h.objs.size f cdv) e) (fun _ h'' => ∃ a, e = .ref a ∧ Rz base outer h h'' a why) (fun _ _ => False) h') h₁ := by
  refine w_cons (w_Raise room.hand (w_misused B F.keep (room.deeper (m := 2) (by omega)) (fun h₂ t D es m' wt k₂ he₂ hD hg => ?_) hk hx rfl hc he))
  refine ⟨_, t, D, rfl, k₂.all _ _ (F.keep _ _ (B.X _ _ (misK w))), he₂, ⟨fun n => ?_⟩⟩
  have F₂ := fk0 F k₂
  obtain ⟨⟨o, eo, ep, hL, hdL, _⟩, kp₂, ab⟩ := F₂
  have hn0 : base.get? h.objs.size = none := B.none (by rw [← B.size]; exact ab)
  have ff₁ : h₂.FunFrames base (envOf qual scope h.objs.size f cdv :: outer) := ⟨by show scope.kind ≠ .module; rw [hk]; decide, ⟨h.objs.size, o, rfl, hn0, hL, fun vs q => by rw [hdL] at q; cases q⟩,
    FF_keep (KS.of_kept (S := []) ((k₁.trans k₂))) ff (by simp)⟩
  have hlt : h₁.objs.size < h₂.objs.size := Nat.lt_of_succ_lt (Heap.lt_size he₂)
  have hle : h.objs.size < h₁.objs.size := by obtain ⟨⟨o, _, _, hL, _⟩, _⟩ := F; exact Heap.lt_size hL
  refine x_leave (s := c.st h₂ n) (A := A.deeper (envOf qual scope h.objs.size f cdv)) (Around.frames_deeper hfr) ff₁ rfl he₂ fun h₃ k₃ he₃ T₃ ff₃ => ⟨h₃, n, rfl, _, rfl, ?_, ?_, ?_, t, D, _, he₃, T₃, ?_, ?_, ?_⟩
  · intro b o hb _
    have hbL : b ≠ h.objs.size := Nat.ne_of_lt (Heap.lt_size hb)
    have hb1 : b < h₁.objs.size := Nat.lt_trans (Heap.lt_size hb) hle
    obtain ⟨sl, q⟩ := k₃ b o (k₂.all _ _ (k₁.all _ _ hb)) (by simp; exact Nat.ne_of_lt (Nat.lt_succ_of_lt hb1))
    refine ⟨sl, fun m => q fun mm => ?_⟩
    rw [show fs (envOf qual scope h.objs.size f cdv :: outer) = h.objs.size :: fs outer from rfl] at mm
    rcases List.mem_cons.mp mm with mm | mm
    · exact hbL mm
    · exact m mm
  · obtain ⟨_, _, q⟩ := ff₃; exact q
  · exact Nat.le_of_lt (Nat.lt_succ_of_lt hle)
  · exact Nat.ne_of_gt (Heap.lt_size he₂)
  · exact Nat.le_of_lt (Nat.lt_trans hle hlt)
  · refine WhyAt.keep (h := h₂) ⟨_, wt, hD, ?_, fun vs q => by cases q⟩ k₃ fun a m => ?_
    · rw [lookIn_dict, hg]
    · rw [List.mem_singleton] at m; subst m; exact ⟨_, _, he₂, rfl⟩
end
end Mine
end

section
open PySem PySem.W PyProof.Rows PySem.Calls
namespace Mine
/-- the call ends in an exception with these words -/
def Refused (base : Heap) (outer : List Env) (h : Heap) (why : Str) (r : Result) (h' : Heap) : Prop := match r with
  | .error e => ∃ a, e = .ref a ∧ Rz base outer h h' a why
  | .ok _ => False

section
variable {prog : Program} {w : World} {c : Cx} {A : Around} {base h : Heap} {outer : List Env} {κ : CA} {σ : St}

theorem c_bad_put {k z : Int} {kt zt : Tok} {V : Value} (B : Base w base) (kp : In0 base h) (room : Room A 4) (hfr : A.frames = some outer) (ff : h.FunFrames base outer) (hz : z < 1) :
    C prog w c A (.call (.ref 178) ⟨[.ref κ.x, .int k kt, V, .int z zt], []⟩) (Refused base outer h "a thing without size") h := by
  refine cfE [("self", .ref κ.x), ("key", .int k kt), ("value", V), ("size", .int z zt)] B kp room (by k_is) (by k_is) (fun s e => binds_K (K := KF w.params) (by rw [e]; exact B.In kp) rfl (by k_is) rfl rfl rfl) (locs rfl) (fun h₁ F k₁ => ?_)
  refine w_cons (w_If (w_tCmp (w_ld F rfl (w_int fun t => w_lt (w_truthy ?_)))))
  first | refine if_yes (by first | rfl | simp only [hz, decide_true]) ?_ | simp only [hz, decide_true, if_true]
  exact w_refuse (n := 1) B F k₁ room hfr ff

theorem c_bad_resize {m : Int} {mt : Tok} (B : Base w base) (kp : In0 base h) (room : Room A 4) (hfr : A.frames = some outer) (ff : h.FunFrames base outer) (hm : m < 1) :
    C prog w c A (.call (.ref 260) ⟨[.ref κ.x, .int m mt], []⟩) (Refused base outer h "a cache without room") h := by
  refine cfE [("self", .ref κ.x), ("most", .int m mt)] B kp room (by k_is) (by k_is) (fun _ _ => BindsTo.of_eq rfl) (locs rfl) (fun h₁ F k₁ => ?_)
  refine w_cons (w_If (w_tCmp (w_ld F rfl (w_int fun t => w_lt (w_truthy ?_)))))
  first | refine if_yes (by first | rfl | simp only [hm, decide_true]) ?_ | simp only [hm, decide_true, if_true]
  exact w_refuse (n := 1) B F k₁ room hfr ff

theorem c_bad_release {k : Int} {kt : Tok} (B : Base w base) (kp : In0 base h) (room : Room A 4) (x : CacheAt prog w h κ σ) (hfr : A.frames = some outer) (ff : h.FunFrames base outer) (hh : hin σ.held k = false) :
    C prog w c A (.call (.ref 253) ⟨[.ref κ.x, .int k kt], []⟩) (Refused base outer h "it is not held") h := by
  refine cfE [("self", .ref κ.x), ("key", .int k kt)] B kp room (by k_is) (by k_is) (fun _ _ => BindsTo.of_eq rfl) (locs rfl) (fun h₁ F k₁ => ?_)
  have x₁ := x.kept0 k₁
  obtain ⟨lo, cl, e, d⟩ := x₁.held
  refine w_cons (w_If (w_tCmp (w_ld F rfl (w_Attr (w_ld F rfl (cg_held B F.keep x₁.ca (w_dnotin d lo (w_truthy ?_))))))))
  rw [held_any e, hh]
  first | refine if_yes (by first | rfl | simp only [Bool.not_false]) ?_ | simp only [Bool.not_false, if_true]
  exact w_refuse (n := 1) B F k₁ room hfr ff

theorem c_bad_hold {k : Int} {kt : Tok} (B : Base w base) (kp : In0 base h) (room : Room A 4) (x : CacheAt prog w h κ σ) (hfr : A.frames = some outer) (ff : h.FunFrames base outer) (hh : hasS σ k = false) :
    C prog w c A (.call (.ref 246) ⟨[.ref κ.x, .int k kt], []⟩) (Refused base outer h "what is not here can't be held") h := by
  refine cfE [("self", .ref κ.x), ("key", .int k kt)] B kp room (by k_is) (by k_is) (fun _ _ => BindsTo.of_eq rfl) (locs rfl) (fun h₁ F k₁ => ?_)
  have x₁ := x.kept0 k₁
  refine w_cons (w_If (w_tNot (w_tval (km mf_has B (w_ld F rfl ⟨_, _, rfl, F.keep, x₁.ca, w_items (w_ld F rfl (w_items0 ⟨F.keep, c_ca_has B F.keep room.deeper x₁ fun h₂ k₂ => w_truthy ?_⟩))⟩)))))
  rw [hh]
  first | refine if_yes (by first | rfl | simp only [Bool.not_false]) ?_ | simp only [Bool.not_false, if_true]
  exact w_refuse (n := 1) B (fk0 F k₂) (k₁.trans k₂) room hfr ff
end
end Mine
end

section
open PySem PySem.W PyProof.Rows PySem.Calls
namespace Mine
/-- of what lies below n: the frames S change slots, the rest stands -/
def KN (n : Nat) (S : List Addr) (h h' : Heap) : Prop := ∀ b o, b < n → h.get? b = some o → (∃ sl, h'.get? b = some { o with slots := sl }) ∧ (b ∉ S → h'.get? b = some o)
theorem KN.trans {n : Nat} {S : List Addr} {h h' h'' : Heap} (k : KN n S h h') (k' : KN n S h' h'') : KN n S h h'' := fun b o l e => by
  obtain ⟨⟨sl, a⟩, c⟩ := k b o l e
  obtain ⟨⟨sl', a'⟩, c'⟩ := k' b _ l a
  exact ⟨⟨sl', a'⟩, fun m => (k' b _ l (c m)).2 m⟩
theorem KN.of_ks {n : Nat} {S S' X : List Addr} {h h' : Heap} (k : KS S' X h h') (hX : ∀ a ∈ X, n ≤ a) (hS : ∀ a ∈ S', a < n → a ∈ S) : KN n S h h' := fun b o l e => by
  obtain ⟨a, c⟩ := k b o e fun m => absurd l (Nat.not_lt.mpr (hX b m))
  exact ⟨a, fun m => c fun q => m (hS b q l)⟩
theorem KN.of_kept {n : Nat} {S X : List Addr} {h h' : Heap} (k : Kept X h h') (hX : ∀ a ∈ X, n ≤ a) : KN n S h h' := KN.of_ks (KS.of_kept (S := []) k) hX (by simp)
theorem KN.ks {S : List Addr} {h h' : Heap} (k : KN h.objs.size S h h') : KS S [] h h' := fun b o e _ => k b o (Heap.lt_size e) e

section
variable {prog : Program} {w : World} {A : Around} {E : Value → Shared → Prop} {s : Shared} {base : Heap}
theorem x_why {a t D : Addr} {T : Value} {why : Str} {expr : Bool} {Q : Value → Shared → Prop} (B : Base w base) (kp : In0 base s.heap) (he : s.heap.get? a = some (excT t D T)) (hw : WhyAt s.heap D why)
    (q : ∀ n wt, Q (.str why wt) { s with toks := n }) : wpAny (model prog w) A (getAttr (.ref a) "why" expr) Q E s := by
  obtain ⟨o, wt, hD, hl, _⟩ := hw
  have X := B.In kp
  have I : PySem.W.InstAt s.heap a (excT t D T) 44 (some o) := ⟨he, rfl, rfl, hD⟩
  have FB := PySem.F.attrBase_Exception
  obtain ⟨h, g, d, tk, os⟩ := s
  dsimp only at *
  have L0 := I.type (M := model prog w)
  have L2 := looks_findIn (M := model prog w) X (by k_is : findIn (KF w.params) (.ref 44) "__getattribute__" = some (some (.builtin "BaseException.__getattribute__")))
  have L3 := looks_findIn (M := model prog w) X (by k_is : findIn (KF w.params) (.ref 44) "__getattr__" = some none)
  have L1 := looks_find (M := model prog w) X I (findObj_own (by k_is) (by k_is : findIn (KF w.params) (.ref 44) "why" = some none) rfl hl)
  have sub : Looks (model prog w) h (isInstance (.ref a) (.type "BaseException")) true := I.type.andThen (looks_subIn X (by k_is))
  have f3 := FB.ga.bind (.ref a)
  have hx0 : (expr && onTheHeap (Value.builtin "BaseException.__getattribute__")) = false := by cases expr <;> rfl
  have hx2 : (Value.builtin "BaseException.__getattribute__" == Value.builtin "object.__getattribute__") = false := by decide +kernel
  have hx1 : (onTheHeap (Value.ref 44) && Value.builtin "BaseException.__getattribute__" == Value.builtin "object.__getattribute__") = false := by rw [hx2]; rfl
  have hk : builtinKind "BaseException.__getattribute__" = some .slot := by decide +kernel
  have hsplit : splitId "BaseException.__getattribute__" = some ("BaseException", "__getattribute__") := by decide +kernel
  unfold getAttr
  refine wpAny_bind (wpAny_mkText ?_)
  unfold getAttrBy
  refine wpAny_holding (wpAny_bind (L0.at (wpAny_bind (L2.at ?_))))
  dsimp only
  rw [if_neg (by rw [hx1]; decide)]
  unfold getAttrByItsOwn hookBefore
  refine wpAny_bind ?_
  show wpAny _ _ (typeLookup (.ref 44) "__getattr__") _ _ _
  refine L3.at ?_
  refine wpAny_bind (wpAny_attempt (wpAny_holding ?_))
  unfold callGetattribute
  rw [hx0]
  unfold boundAndCalled
  first | refine if_no (by rfl) ?_ | simp only [Bool.false_eq_true, if_false]
  rw [f3]
  refine wpAny_bind (wpAny_pure ?_)
  have y : codeAny (model prog w) A (.call (.builtin "BaseException.__getattribute__") ⟨[.ref a, .str "why" tk], []⟩) (fun r s' => match r with | .ok (.ret v) => wpAny (model prog w) A (handedOut v) Q E s' | .ok _ => False | .error e => wpAny (model prog w) A (getattributeRaised (.ref a) (.str "why" tk) (.ref 44) e none true expr) Q E s') ⟨h, g, d, tk + 1, os⟩ := by
    refine codeAny_call_builtin FB.ga.plain F.entry_bexc_ga (@check_slot (model prog w) _ _ ⟨h, g, d, tk + 1, os⟩ "BaseException.__getattribute__" "BaseException" "__getattribute__" (.ref a) [.str "why" tk] [] _ hk hsplit sub (F.args_bexc_ga (.ref a) (.str "why" tk)) ?_)
    unfold Builtin.«object.__getattribute__»
    repeat (first | (with_reducible refine wpAny_bind (L0.at ?_)) | (with_reducible refine wpAny_bind (L1.at ?_)) | wp_step)
    exact q _ _
  exact wpAny_call y
end

section
variable {prog : Program} {w : World} {c : Cx} {A : Around} {E : Value → Heap → Prop} {base h h₁ : Heap} {outer : List Env}

theorem w_TryF {env : Env} {body orelse : List Stmt} {h₀ : ExceptHandler} {hs : List ExceptHandler} {pos : Pos} {Q : Flow → Heap → Prop}
    (y : W prog w c A (execs body env) (fun f h₁ => match f with | .next => W prog w c A (execs orelse env) Q E h₁ | f => Q f h₁)
      (fun e h₁ => W prog w c A (noteFrame e env) (fun _ h₂ => W prog w c A (setFlight e none) (fun _ h₃ => W prog w c A (handleBy e env (h₀ :: hs)) Q E h₃) E h₂) E h₁) h) :
    W prog w c A (exec (.Try body (h₀ :: hs) orelse [] pos) env) Q E h := ⟨fun n => wpAny_Try_except (wpAny_mono (y.out n)
      (fun f s' ⟨h', n', e, z⟩ => by subst e; cases f <;> first | exact W.out z n' | exact ⟨h', n', rfl, z⟩)
      fun e s' ⟨h', n', e', z⟩ => by subst e'; exact z.go fun _ h₂ n₂ z => z.go fun _ h₃ n₃ z => z.out n₃)⟩

theorem x_handle {qual : Str} {scope : Scope} {f a : Addr} {cdv : Value} {m : Str → Option Value} {why : Str} {xp p2 p3 p4 p5 p6 hp : Pos} {k1 k2 : Nat} {h₀ : Heap} {Q : Flow → Heap → Prop} (B : Base w base)
    (F : Fr base h.objs.size h₀ m) (k₀ : Kept [] h h₀) (hfr : A.frames = some outer) (ff : h₀.FunFrames base outer) (hlo : ∀ x ∈ fs outer, 350 ≤ x)
    (hmw : m "why" = none) (z : Rz base (envOf qual scope h.objs.size f cdv :: outer) h₀ h₁ a why)
    (q : ∀ h' p ta tb, KS (fs outer) [] h h' → PT h' p [.str "misused" ta, .str why tb] → h.objs.size ≤ p → Q (.ret (.ref p)) h')
    (hk : scope.kind = .function := by rfl) (hx : (envOf qual scope h.objs.size f cdv).kindOf ("Misused" : Str) = some .globalImplicit := by rfl) (hl : (envOf qual scope h.objs.size f cdv).kindOf ("fault" : Str) = some .local := by rfl)
    (hst : starEach [.Constant (.str "misused") k1 p2, .Attribute (.Name "fault" p3) "why" p4] (envOf qual scope h.objs.size f cdv) = (false, eval (.Constant (.str "misused") k1 p2) (envOf qual scope h.objs.size f cdv)) :: starEach [.Attribute (.Name "fault" p3) "why" p4] (envOf qual scope h.objs.size f cdv) := by rfl)
    (hst2 : starEach [.Attribute (.Name "fault" p3) "why" p4] (envOf qual scope h.objs.size f cdv) = (false, eval (.Attribute (.Name "fault" p3) "why" p4) (envOf qual scope h.objs.size f cdv)) :: starEach [] (envOf qual scope h.objs.size f cdv) := by rfl)
    (hat : eval (.Attribute (.Name "fault" p3) "why" p4) (envOf qual scope h.objs.size f cdv) = (do
      let o ← eval (.Name "fault" p3) (envOf qual scope h.objs.size f cdv)
      standAt p4.atName
      let r ← holding [o] (getAttr o "why" true)
      letTemporaryGo (.Name "fault" p3) o r
      pure r) := by with_unfolding_all rfl) :
    W prog w c (A.deeper (envOf qual scope h.objs.size f cdv)) (noteFrame (.ref a) (envOf qual scope h.objs.size f cdv)) (fun _ h₂ => W prog w c (A.deeper (envOf qual scope h.objs.size f cdv)) (setFlight (.ref a) none) (fun _ h₃ =>
      W prog w c (A.deeper (envOf qual scope h.objs.size f cdv)) (handleBy (.ref a) (envOf qual scope h.objs.size f cdv)
        [.ExceptHandler (some (.Name "Misused" xp)) (some "fault") [.Return (some (.Tuple [.Constant (.str "misused") k1 p2, .Attribute (.Name "fault" p3) "why" p4] k2 p5)) p6] hp]) Q E h₃) E h₂) E h₁ := by
  obtain ⟨ks, ff₁, ge, t, D, T, he, hT, hTe, hTn, hw⟩ := z
  have hL0 : h.objs.size < h₀.objs.size := by obtain ⟨⟨o, _, _, hL, _⟩, _⟩ := F; exact Heap.lt_size hL
  have hLlo : 350 ≤ h.objs.size := by rw [← B.size]; exact F.above
  have hSlo : ∀ x ∈ fs (envOf qual scope h.objs.size f cdv :: outer), 350 ≤ x := fun x mx => by
    rw [show fs (envOf qual scope h.objs.size f cdv :: outer) = h.objs.size :: fs outer from rfl] at mx
    rcases List.mem_cons.mp mx with rfl | mx
    · exact hLlo
    · exact hlo x mx
  have hSS : ∀ x ∈ fs (envOf qual scope h.objs.size f cdv :: outer), x < h.objs.size → x ∈ fs outer := fun x mx l => by
    rw [show fs (envOf qual scope h.objs.size f cdv :: outer) = h.objs.size :: fs outer from rfl] at mx
    rcases List.mem_cons.mp mx with rfl | mx
    · exact absurd l (Nat.lt_irrefl _)
    · exact mx
  have hfr' : (A.deeper (envOf qual scope h.objs.size f cdv)).frames = some (envOf qual scope h.objs.size f cdv :: outer) := Around.frames_deeper hfr
  have N₀ : KN h.objs.size (fs outer) h h₀ := KN.of_kept k₀ (by simp)
  have N₁ := N₀.trans (KN.of_ks ks (by simp) hSS)
  have F₁ := ks.fr B F (by simp) hSlo (by simp)
  have hLa : h.objs.size ≠ a := Nat.ne_of_lt (Nat.lt_of_lt_of_le hL0 ge)
  have hLT : h.objs.size ≠ T := Nat.ne_of_lt (Nat.lt_of_lt_of_le hL0 hTn)
  have ha0 : h.objs.size ≤ a := Nat.le_of_lt (Nat.lt_of_lt_of_le hL0 ge)
  have hT0 : h.objs.size ≤ T := Nat.le_of_lt (Nat.lt_of_lt_of_le hL0 hTn)
  refine ⟨fun n => x_look (s := c.st h₁ n) hfr' ff₁ rfl he hT hTe fun h₂ k₂ he₂ T₂ ff₂ => ⟨h₂, n, rfl, ⟨fun n₂ => ?_⟩⟩⟩
  have hFdat : ∀ x ∈ [a, T], ∃ o vs, h₁.get? x = some o ∧ o.data = .fields vs := fun x mx => by
    rcases List.mem_cons.mp mx with rfl | mx
    · exact ⟨_, _, he, rfl⟩
    · rw [List.mem_singleton] at mx; subst mx; obtain ⟨o, ts, y1, y2, _⟩ := hT; exact ⟨o, ts, y1, y2⟩
  have w₂ := hw.keep k₂ hFdat
  have N₂ := N₁.trans (KN.of_ks k₂ (by simp; exact ⟨ha0, hT0⟩) hSS)
  have F₂ := k₂.fr B F₁ (by simp; exact ⟨hLa, hLT⟩) hSlo (by simp; exact ⟨Nat.le_trans hLlo ha0, Nat.le_trans hLlo hT0⟩)
  have hT2e : h₁.objs.size ≠ a := Nat.ne_of_gt (Heap.lt_size he)
  have hLh₁ : h.objs.size < h₁.objs.size := by obtain ⟨⟨o, _, _, hL, _⟩, _⟩ := F₁; exact Heap.lt_size hL
  dsimp only at he₂ T₂
  generalize hT2 : h₁.objs.size = T' at *
  have hT'dat : ∀ {hh : Heap} {fl : Value}, TB hh T' fl → ∀ x ∈ [T'], ∃ o vs, hh.get? x = some o ∧ o.data = .fields vs := fun y x mx => by
    rw [List.mem_singleton] at mx; subst mx; obtain ⟨o, ts, y1, y2, _⟩ := y; exact ⟨o, ts, y1, y2⟩
  refine x_fly (s := c.st h₂ n₂) he₂ T₂ hT2e fun h₃ k₃ he₃ T₃ => ⟨h₃, n₂, rfl, ⟨fun n₃ => ?_⟩⟩
  have w₃ := w₂.keep k₃ (hT'dat T₂)
  have N₃ := N₂.trans (KN.of_ks k₃ (by simp; exact Nat.le_of_lt hLh₁) (by simp))
  have F₃ := k₃.fr B F₂ (by simp; exact Nat.ne_of_lt hLh₁) (by simp) (by simp; exact Nat.le_of_lt (Nat.lt_of_le_of_lt hLlo hLh₁))
  refine wpAny_handleBy_cons (codeAny_handlers_test ?_) (by intro q; cases q)
  refine wpAny_mono ((w_glob (A := ((A.deeper (envOf qual scope h.objs.size f cdv)).mark (some (.ref a)))) (E := fun _ _ => False) (Q := fun v h' => v = .ref 44 ∧ h₃ = h') B F₃.keep (by k_is) ⟨rfl, rfl⟩ hk hx rfl (by decide)).out n₃) (fun v s' y => ?_) fun _ _ ⟨_, _, _, y⟩ => y.elim
  obtain ⟨h', n₄, rfl, rfl, rfl⟩ := y
  refine wpAny_excMatches_sub_self (F₃.keep _ _ (B.X _ _ (misK w))) he₃ rfl mis_below (codeAny_handlers_suite_as ?_)
  refine x_fly (s := c.st h₃ n₄) he₃ T₃ hT2e fun h₄ k₄ he₄ T₄ => ?_
  have w₄ := w₃.keep k₄ (hT'dat T₃)
  have N₄ := N₃.trans (KN.of_ks k₄ (by simp; exact Nat.le_of_lt hLh₁) (by simp))
  have F₄ := k₄.fr B F₃ (by simp; exact Nat.ne_of_lt hLh₁) (by simp) (by simp; exact Nat.le_of_lt (Nat.lt_of_le_of_lt hLlo hLh₁))
  refine wpAny_mono ((w_st (c := c) (prog := prog) (w := w) (A := ((A.deeper (envOf qual scope h.objs.size f cdv)).mark (some (.ref a)))) (E := fun _ _ => False) (env := envOf qual scope h.objs.size f cdv) (x := "fault") (v := .ref a) (Q := fun _ h' => Fr base h.objs.size h' (put "fault" (.ref a) m) ∧ Kept [h.objs.size] h₄ h') F₄ (fun h' x1 x2 => ⟨x1, x2⟩) rfl hl (by show (scope.kind == .class || (scope.kind == .module && _)) = false; rw [hk]; rfl)).out n₄) (fun _ s' y => ?_) fun _ _ ⟨_, _, _, y⟩ => y.elim
  obtain ⟨h₅, n₅, rfl, F₅, k₅⟩ := y
  have he₅ := k₅ _ _ he₄ (by simp; exact hLa.symm)
  have w₅ : WhyAt h₅ D why := by
    obtain ⟨o, wt, y1, y2, y3⟩ := w₄
    by_cases hDL : D = h.objs.size
    · exfalso
      obtain ⟨⟨o', es, ep, hL, hd, _, hf⟩, _⟩ := F₄
      rw [hDL, hL] at y1
      cases y1
      have this := hf "why"
      rw [hmw] at this
      unfold nsFind findBy at this
      rw [← Array.find?_toList, Option.map_eq_none_iff] at this
      unfold lookIn at y2
      rw [hd] at y2
      dsimp only at y2
      rw [this] at y2
      dsimp only at y2
      split at y2 <;> cases y2
    · exact ⟨o, wt, k₅ _ _ y1 (by simpa using hDL), y2, y3⟩
  have N₅ := N₄.trans (KN.of_kept k₅ (by simp))
  refine wpAny_mono ((w_cons (c := c) (prog := prog) (w := w) (A := ((A.deeper (envOf qual scope h.objs.size f cdv)).mark (some (.ref a)))) (E := fun _ _ => False) (Q := fun fl h' => ∃ p ta tb, fl = .ret (.ref p) ∧ Kept [] h₅ h' ∧ PT h' p [.str "misused" ta, .str why tb] ∧ h.objs.size ≤ p) (w_Return (w_Tuple (w_items (w_str fun ta => w_items (w_Attr (w_ld F₅ (if_pos rfl) ⟨fun n => ?_⟩ hk hl) hat) hst2) hst)))).out n₅) (fun fl s' y => ?_) fun _ _ ⟨_, _, _, y⟩ => y.elim
  · refine x_why (s := c.st h₅ n) B F₅.keep he₅ w₅ fun n wt => ⟨h₅, n, rfl, w_items0 ⟨by simp, fun h₆ p₆ k₆ => ⟨_, ta, wt, rfl, k₆, p₆, ?_⟩⟩⟩
    obtain ⟨⟨o, _, _, hL, _⟩, _⟩ := F₅
    exact Nat.le_of_lt (Heap.lt_size hL)
  · obtain ⟨h₆, n₆, rfl, p, ta, tb, rfl, k₆, p₆, hp⟩ := y
    have F₆ := fk0 F₅ k₆
    have N₆ := N₅.trans (KN.of_kept k₆ (by simp))
    refine wpAny_nameGoes (s := c.st h₆ n₆) hl F₆.ns (by show (scope.kind == .class || (scope.kind == .module && _)) = false; rw [hk]; rfl) fun h₇ m' _ sb => ?_
    refine ⟨h₇, _, rfl, ?_⟩
    have k₇ : Kept [h.objs.size] h₆ h₇ := Kept.of_sb sb
    have hpL : p ≠ h.objs.size := fun e => by
      obtain ⟨n1, y1⟩ := p₆
      obtain ⟨⟨o, es, ep, hL, hd, _⟩, _⟩ := F₆
      rw [e, hL] at y1
      cases y1
      cases hd
    exact q h₇ p ta tb (N₆.trans (KN.of_kept k₇ (by simp))).ks (p₆.kept k₇ (by simpa using hpL)) hp
end
end Mine
end

section
open PySem PySem.W PyProof.Rows PySem.Calls
namespace Mine
def cacheDo (σ : St) (what key far : Int) : St × Ans :=
  if what < 2 then ((getS σ key).1, .told (AV.of (getS σ key).2))
  else if what < 5 then
    if far % 6 > 0 then ((putS σ key (some (100 * far + key)) (far % 6)).1, .told (.bool (putS σ key (some (100 * far + key)) (far % 6)).2)) else (σ, .mis "a thing without size")
  else if what = 5 then (dropS σ key, .told (.bool (hasS σ key)))
  else if what = 6 then
    if far % 3 = 0 then (if hin σ.held key then (releaseS σ key, .told .none) else (σ, .mis "it is not held"))
    else if hasS σ key then (holdS σ key, .told .none) else (σ, .mis "what is not here can't be held")
  else if far % 4 = 0 then ((clearS σ).1, .told (.int (clearS σ).2))
  else if far % 4 = 1 then (σ, .told (.bool (hasS σ key)))
  else if far / 4 % 13 = 0 then (σ, .mis "a cache without room")
  else (resizeS σ (far / 4 % 13), .told .none)

section
variable {prog : Program} {w : World} {c : Cx} {A : Around} {R : Result → Heap → Prop} {base h : Heap} {outer : List Env} {κ : CA} {σ : St}

theorem FF_cons {qual : Str} {scope : Scope} {L f : Addr} {cdv : Value} {m : Str → Option Value} (B : Base w base) (F : Fr base L h m) (ff : h.FunFrames base outer) (hk : scope.kind = .function := by rfl) : h.FunFrames base (envOf qual scope L f cdv :: outer) := by
  obtain ⟨⟨o, eo, ep, hL, hdL, _⟩, _, ab⟩ := F
  exact ⟨by show scope.kind ≠ .module; rw [hk]; decide, ⟨L, o, rfl, B.none (by rw [← B.size]; exact ab), hL, fun vs q => by rw [hdL] at q; cases q⟩, ff⟩

theorem c_law_told {what k far : Int} {wt kt ft : Tok} (B : Base w base) (kp : In0 base h) (room : Room A 6) (hfr : A.frames = some outer) (ff : h.FunFrames base outer) (hlo : ∀ a ∈ fs outer, 350 ≤ a)
    (x : CacheAt prog w h κ σ) (hκ : ∀ a ∈ κ.all, a ∉ fs outer) (g : Good σ) (hk : 0 ≤ k ∧ k < 8)
    (q : ∀ h' V, KS (fs outer) κ.all h h' → CacheAt prog w h' κ (cacheDo σ what k far).1 → AnsV h.objs.size h' V (cacheDo σ what k far).2 → R (.ok (.ret V)) h') :
    C prog w c A (.call (.ref 344) ⟨[.ref κ.x, .int what wt, .int k kt, .int far ft], []⟩) R h := by
  refine cf [("cache", .ref κ.x), ("what", .int what wt), ("key", .int k kt), ("far", .int far ft)] B kp room (by k_is) (by k_is) (fun _ _ => BindsTo.of_eq rfl) (locs rfl) (fun h₁ F k₁ => ?_)
  have hL := not_mem_of_lt x.lt
  have x₁ := x.kept0 k₁
  have sz : ∀ {h' : Heap} {m : Str → Option Value}, Fr base h.objs.size h' m → h.objs.size ≤ h'.objs.size := fun {h' m} F' => by obtain ⟨o, _, _, e, _⟩ := F'.ns; exact Nat.le_of_lt (Heap.lt_size e)
  have ff₁ : h₁.FunFrames base outer := FF_keep (KS.of_kept (S := []) k₁) ff (by simp)
  have room4 : ∀ env, Room (A.deeper env) 5 := fun env => room.deeper (by omega)
  have good : ∀ {h₅ h₆ : Heap} {V : Value} {τ : St} {a : AV}, cacheDo σ what k far = (τ, .told a) → Kept κ.all h₁ h₅ → CacheAt prog w h₅ κ τ → Kept [] h₅ h₆ → AnsV h.objs.size h₆ V (.told a) → R (.ok (.ret V)) h₆ := fun {h₅ h₆ V τ a} e k₅ x₅ k₆ av => by
    have := q h₆ V (KS.of_kept ((k₁.nil.trans k₅).trans k₆.nil))
    rw [e] at this
    exact this (x₅.kept0 k₆) av
  have bad : ∀ {h' : Heap} {p : Addr} {ta tb : Tok} {why : Str}, cacheDo σ what k far = (σ, .mis why) → KS (fs outer) [] h h' → PT h' p [.str "misused" ta, .str why tb] → h.objs.size ≤ p → R (.ok (.ret (.ref p))) h' := fun {h' p ta tb why} e ks pt hp => by
    have := q h' (.ref p) (ks.mono (fun _ m => m) (by simp))
    rw [e] at this
    exact this (x.kept ks.kept fun a m m' => hκ a m (by simpa using m')) ⟨p, ta, tb, rfl, hp, pt⟩
  refine w_cons (w_TryF ?_)
  -- if what < 2
  refine w_cons (w_If (w_tCmp (w_ld F rfl (w_int fun t => w_lt (w_truthy ?_)))))
  by_cases c1 : what < 2
  · first | refine if_yes (by first | rfl | simp only [c1, decide_true]) ?_ | simp only [c1, decide_true, if_true]
    refine w_cons (w_Return (s_told rfl (km mf_get B (w_ld F rfl ⟨_, _, rfl, F.keep, x₁.ca, w_items (w_ld F rfl (w_items0 ⟨F.keep, c_ca_get B F.keep room.deeper x₁ g fun h₅ V k₅ x₅ hV => ⟨_, AVal.of hV, sz (fk B F k₅ hL x.lo), fun h₆ V6 k₆ av => ?_⟩⟩))⟩))))
    exact good (by simp only [cacheDo, c1, if_true]) k₅ x₅ k₆ av
  first | refine if_no (by first | rfl | simp only [c1, decide_false]) ?_ | simp only [c1, decide_false, Bool.false_eq_true, if_false]
  -- if what < 5
  refine w_nil (w_cons (w_If (w_tCmp (w_ld F rfl (w_int fun t => w_lt (w_truthy ?_))))))
  by_cases c2 : what < 5
  · first | refine if_yes (by first | rfl | simp only [c2, decide_true]) ?_ | simp only [c2, decide_true, if_true]
    by_cases c3 : far % 6 > 0
    · have hz : 1 ≤ far % 6 ∧ far % 6 ≤ 5 := by omega
      refine w_cons (w_Return (s_told rfl (km mf_put B (w_ld F rfl ⟨_, _, rfl, F.keep, x₁.ca, w_items (w_ld F rfl (w_items (w_BinOp (w_BinOp (w_int fun t => w_ld F rfl (w_mul (by decide) fun t => w_ld F rfl (w_add fun tv => w_items (w_BinOp (w_ld F rfl (w_int fun t => w_mod (by decide) fun tz => w_items0 ⟨F.keep, c_ca_put (v := some (100 * far + k)) B F.keep room.deeper x₁ g hk hz ⟨tv, rfl⟩ fun h₅ k₅ x₅ => ⟨.bool _, rfl, sz (fk B F k₅ hL x.lo), fun h₆ V6 k₆ av => ?_⟩⟩))))))))))⟩))))
      exact good (by simp only [cacheDo, c1, c2, c3, if_true, if_false]) k₅ x₅ k₆ av
    · refine w_cons (w_Return (s_told (lo := h.objs.size) rfl (km mf_put B (w_ld F rfl ⟨_, _, rfl, F.keep, x₁.ca, w_items (w_ld F rfl (w_items (w_BinOp (w_BinOp (w_int fun t => w_ld F rfl (w_mul (by decide) fun t => w_ld F rfl (w_add fun tv => w_items (w_BinOp (w_ld F rfl (w_int fun t => w_mod (by decide) fun tz => w_items0 ⟨F.keep, C.mono (c_bad_put B F.keep (room.deeper (m := 4)) (Around.frames_deeper hfr) (FF_cons B F ff₁) (by omega)) fun r h' z => ?_⟩))))))))))⟩))))
      cases r with
      | ok _ => exact z.elim
      | error e =>
        obtain ⟨a, rfl, z⟩ := z
        exact x_handle B F k₁ hfr ff₁ hlo rfl z fun h' p ta tb ks pt hp => bad (by simp only [cacheDo, c1, c2, c3, if_true, if_false]) ks pt hp
  first | refine if_no (by first | rfl | simp only [c2, decide_false]) ?_ | simp only [c2, decide_false, Bool.false_eq_true, if_false]
  -- if what == 5
  refine w_nil (w_cons (w_If (w_tCmp (w_ld F rfl (w_int fun t => w_eq (w_truthy ?_))))))
  by_cases c5 : what = 5
  · have e : (what == 5) = true := by simpa using c5
    first | refine if_yes (by first | rfl | simp only [e]) ?_ | simp only [e, if_true]
    refine w_cons (w_Return (s_told rfl (km mf_drop B (w_ld F rfl ⟨_, _, rfl, F.keep, x₁.ca, w_items (w_ld F rfl (w_items0 ⟨F.keep, c_ca_drop B F.keep room.deeper x₁ g fun h₅ k₅ x₅ => ⟨.bool _, rfl, sz (fk B F k₅ hL x.lo), fun h₆ V6 k₆ av => ?_⟩⟩))⟩))))
    exact good (by (first | refine if_no (by first | rfl | simp only [cacheDo, c1, c2]) ?_ | simp only [cacheDo, c1, c2, if_false]); rw [if_pos c5]) k₅ x₅ k₆ av
  have e5 : (what == 5) = false := by simpa using c5
  first | refine if_no (by first | rfl | simp only [e5]) ?_ | simp only [e5, Bool.false_eq_true, if_false]
  -- if what == 6
  refine w_nil (w_cons (w_If (w_tCmp (w_ld F rfl (w_int fun t => w_eq (w_truthy ?_))))))
  by_cases c6 : what = 6
  · have e : (what == 6) = true := by simpa using c6
    first | refine if_yes (by first | rfl | simp only [e]) ?_ | simp only [e, if_true]
    refine w_cons (w_Return (s_told (lo := h.objs.size) rfl (w_IfExp (w_tCmp (w_BinOp (w_ld F rfl (w_int fun t => w_mod (by decide) fun t => w_int fun u => w_eq (w_truthy ?_))))))))
    by_cases c7 : far % 3 = 0
    · have e7 : (far % 3 == 0) = true := by simpa using c7
      first | refine if_yes (by first | rfl | simp only [e7]) ?_ | simp only [e7, if_true]
      cases c8 : hin σ.held k with
      | true =>
        refine km mf_release B (w_ld F rfl ⟨_, _, rfl, F.keep, x₁.ca, w_items (w_ld F rfl (w_items0 ⟨F.keep, c_ca_release B F.keep room.deeper x₁ g hk c8 fun h₅ k₅ x₅ => ⟨.none, rfl, sz (fk B F k₅ hL x.lo), fun h₆ V6 k₆ av => ?_⟩⟩))⟩)
        exact good (by (first | refine if_no (by first | rfl | simp only [cacheDo, c1, c2]) ?_ | simp only [cacheDo, c1, c2, if_false]); rw [if_neg c5, if_pos c6, if_pos c7, c8, if_pos rfl]) k₅ x₅ k₆ av
      | false =>
        refine km mf_release B (w_ld F rfl ⟨_, _, rfl, F.keep, x₁.ca, w_items (w_ld F rfl (w_items0 ⟨F.keep, C.mono (c_bad_release B F.keep (room.deeper (m := 4)) x₁ (Around.frames_deeper hfr) (FF_cons B F ff₁) c8) fun r h' z => ?_⟩))⟩)
        cases r with
        | ok _ => exact z.elim
        | error e =>
          obtain ⟨a, rfl, z⟩ := z
          exact x_handle B F k₁ hfr ff₁ hlo rfl z fun h' p ta tb ks pt hp => bad (by (first | refine if_no (by first | rfl | simp only [cacheDo, c1, c2]) ?_ | simp only [cacheDo, c1, c2, if_false]); rw [if_neg c5, if_pos c6, if_pos c7, c8]; rfl) ks pt hp
    · have e7 : (far % 3 == 0) = false := by simpa using c7
      first | refine if_no (by first | rfl | simp only [e7]) ?_ | simp only [e7, Bool.false_eq_true, if_false]
      cases c8 : hasS σ k with
      | true =>
        refine km mf_hold B (w_ld F rfl ⟨_, _, rfl, F.keep, x₁.ca, w_items (w_ld F rfl (w_items0 ⟨F.keep, c_ca_hold B F.keep room.deeper x₁ g c8 fun h₅ k₅ x₅ => ⟨.none, rfl, sz (fk B F k₅ hL x.lo), fun h₆ V6 k₆ av => ?_⟩⟩))⟩)
        exact good (by (first | refine if_no (by first | rfl | simp only [cacheDo, c1, c2]) ?_ | simp only [cacheDo, c1, c2, if_false]); rw [if_neg c5, if_pos c6, if_neg c7, c8, if_pos rfl]) k₅ x₅ k₆ av
      | false =>
        refine km mf_hold B (w_ld F rfl ⟨_, _, rfl, F.keep, x₁.ca, w_items (w_ld F rfl (w_items0 ⟨F.keep, C.mono (c_bad_hold B F.keep (room.deeper (m := 4)) x₁ (Around.frames_deeper hfr) (FF_cons B F ff₁) c8) fun r h' z => ?_⟩))⟩)
        cases r with
        | ok _ => exact z.elim
        | error e =>
          obtain ⟨a, rfl, z⟩ := z
          exact x_handle B F k₁ hfr ff₁ hlo rfl z fun h' p ta tb ks pt hp => bad (by (first | refine if_no (by first | rfl | simp only [cacheDo, c1, c2]) ?_ | simp only [cacheDo, c1, c2, if_false]); rw [if_neg c5, if_pos c6, if_neg c7, c8]; rfl) ks pt hp
  have e6 : (what == 6) = false := by simpa using c6
  first | refine if_no (by first | rfl | simp only [e6]) ?_ | simp only [e6, Bool.false_eq_true, if_false]
  -- if far % 4 == 0
  refine w_nil (w_cons (w_If (w_tCmp (w_BinOp (w_ld F rfl (w_int fun t => w_mod (by decide) fun t => w_int fun u => w_eq (w_truthy ?_)))))))
  by_cases c7 : far % 4 = 0
  · have e7 : (far % 4 == 0) = true := by simpa using c7
    first | refine if_yes (by first | rfl | simp only [e7]) ?_ | simp only [e7, if_true]
    refine w_cons (w_Return (s_told rfl (km0 mf_clear B (w_ld F rfl ⟨_, _, rfl, F.keep, x₁.ca, c_ca_clear B F.keep room.deeper x₁ g fun h₅ t k₅ x₅ => ⟨.int _, ⟨t, rfl⟩, sz (fk B F k₅ hL x.lo), fun h₆ V6 k₆ av => ?_⟩⟩))))
    exact good (by (first | refine if_no (by first | rfl | simp only [cacheDo, c1, c2]) ?_ | simp only [cacheDo, c1, c2, if_false]); rw [if_neg c5, if_neg c6, if_pos c7]) k₅ x₅ k₆ av
  have e7 : (far % 4 == 0) = false := by simpa using c7
  first | refine if_no (by first | rfl | simp only [e7]) ?_ | simp only [e7, Bool.false_eq_true, if_false]
  refine w_nil (w_cons (w_Return (s_told (lo := h.objs.size) rfl (w_IfExp (w_tCmp (w_BinOp (w_ld F rfl (w_int fun t => w_mod (by decide) fun t => w_int fun u => w_eq (w_truthy ?_)))))))))
  by_cases c8 : far % 4 = 1
  · have e8 : (far % 4 == 1) = true := by simpa using c8
    first | refine if_yes (by first | rfl | simp only [e8]) ?_ | simp only [e8, if_true]
    refine km mf_has B (w_ld F rfl ⟨_, _, rfl, F.keep, x₁.ca, w_items (w_ld F rfl (w_items0 ⟨F.keep, c_ca_has B F.keep room.deeper x₁ fun h₅ k₅ => ⟨.bool _, rfl, sz (fk0 F k₅), fun h₆ V6 k₆ av => ?_⟩⟩))⟩)
    exact good (by (first | refine if_no (by first | rfl | simp only [cacheDo, c1, c2]) ?_ | simp only [cacheDo, c1, c2, if_false]); rw [if_neg c5, if_neg c6, if_neg c7, if_pos c8]) k₅.nil (x₁.kept0 k₅) k₆ av
  have e8 : (far % 4 == 1) = false := by simpa using c8
  first | refine if_no (by first | rfl | simp only [e8]) ?_ | simp only [e8, Bool.false_eq_true, if_false]
  by_cases c9 : far / 4 % 13 = 0
  · refine km mf_resize B (w_ld F rfl ⟨_, _, rfl, F.keep, x₁.ca, w_items (w_BinOp (w_BinOp (w_ld F rfl (w_int fun t => w_div (by decide) (by decide) fun t => w_int fun u => w_mod (by decide) fun tm => w_items0 ⟨F.keep, C.mono (c_bad_resize B F.keep (room.deeper (m := 4)) (Around.frames_deeper hfr) (FF_cons B F ff₁) (by omega)) fun r h' z => ?_⟩))))⟩)
    cases r with
    | ok _ => exact z.elim
    | error e =>
      obtain ⟨a, rfl, z⟩ := z
      exact x_handle B F k₁ hfr ff₁ hlo rfl z fun h' p ta tb ks pt hp => bad (by (first | refine if_no (by first | rfl | simp only [cacheDo, c1, c2]) ?_ | simp only [cacheDo, c1, c2, if_false]); rw [if_neg c5, if_neg c6, if_neg c7, if_neg c8, if_pos c9]) ks pt hp
  · refine km mf_resize B (w_ld F rfl ⟨_, _, rfl, F.keep, x₁.ca, w_items (w_BinOp (w_BinOp (w_ld F rfl (w_int fun t => w_div (by decide) (by decide) fun t => w_int fun u => w_mod (by decide) fun tm => w_items0 ⟨F.keep, c_ca_resize B F.keep room.deeper x₁ g (by omega) fun h₅ k₅ x₅ => ⟨.none, rfl, sz (fk B F k₅ hL x.lo), fun h₆ V6 k₆ av => ?_⟩⟩))))⟩)
    exact good (by (first | refine if_no (by first | rfl | simp only [cacheDo, c1, c2]) ?_ | simp only [cacheDo, c1, c2, if_false]); rw [if_neg c5, if_neg c6, if_neg c7, if_neg c8, if_neg c9]) k₅ x₅ k₆ av
end
end Mine
end

section
open PySem PySem.W
namespace Mine
/-! the cache's state out of the law's -/
def it (r : LR) : It := ⟨r.k, r.v, r.z⟩
def sub (i : Int) (l : List LR) : List It := (ofS i l).map it
def abs (τ : LSt) : St := ⟨τ.most, τ.goal, sub 1 τ.rows, sub 2 τ.rows, sub 3 τ.rows, sub 4 τ.rows, τ.held, τ.cn⟩
abbrev NdK (l : List LR) : Prop := (l.map (·.k)).Nodup

theorem sub_append (i : Int) (l l' : List LR) : sub i (l ++ l') = sub i l ++ sub i l' := by simp [sub, ofS]
theorem sub_cons (i : Int) (a : LR) (l : List LR) : sub i (a :: l) = if a.s = i then it a :: sub i l else sub i l := by
  unfold sub ofS
  rw [List.filter_cons]
  by_cases e : a.s = i <;> simp [e]
theorem sub_one (i : Int) (r : LR) : sub i [r] = if r.s = i then [it r] else [] := sub_cons i r []
theorem erase_filter {l : List LR} (nd : NdK l) {r : LR} (hr : r ∈ l) : l.erase r = l.filter fun x => decide (x.k ≠ r.k) := by
  induction l with
  | nil => cases hr
  | cons a t ih =>
    rw [NdK, List.map_cons, List.nodup_cons] at nd
    rw [List.filter_cons]
    by_cases e : a = r
    · subst e
      have : t.filter (fun x => decide (x.k ≠ a.k)) = t := List.filter_eq_self.mpr fun x hx => by
        have : x.k ≠ a.k := fun q => nd.1 (q ▸ List.mem_map_of_mem hx)
        simpa using this
      rw [List.erase_cons_head, if_neg (by simp), this]
    · have hr' : r ∈ t := by rcases List.mem_cons.mp hr with q | q; exact absurd q.symm e; exact q
      have : a.k ≠ r.k := fun q => nd.1 (q ▸ List.mem_map_of_mem hr')
      rw [List.erase_cons_tail (by simpa using e), ih nd.2 hr']
      simp [this]
theorem same_key {l : List LR} (nd : NdK l) {r x : LR} (hr : r ∈ l) (hx : x ∈ l) (e : x.k = r.k) : x = r := by
  induction l with
  | nil => cases hr
  | cons a t ih =>
    rw [NdK, List.map_cons, List.nodup_cons] at nd
    have hm : ∀ y ∈ t, y.k ≠ a.k := fun y hy q => nd.1 (q ▸ List.mem_map_of_mem hy)
    rcases List.mem_cons.mp hr with q | hr
    · rcases List.mem_cons.mp hx with p | hx
      · rw [p, q]
      · exact absurd (by rw [e, q]) (hm x hx)
    · rcases List.mem_cons.mp hx with p | hx
      · exact absurd (by rw [← e, p]) (hm r hr)
      · exact ih nd.2 hr hx
theorem sub_erase {l : List LR} (nd : NdK l) {r : LR} (hr : r ∈ l) (i : Int) : sub i (l.erase r) = if r.s = i then dropK (sub i l) r.k else sub i l := by
  rw [erase_filter nd hr]
  unfold sub ofS dropK
  split
  · rw [List.filter_map, List.filter_filter, List.filter_filter]
    congr 1
    refine List.filter_congr fun x _ => ?_
    first | exact Bool.and_comm _ _ | rfl
  · rename_i h
    rw [List.filter_filter]
    congr 1
    refine List.filter_congr fun x hx => ?_
    by_cases e : x.s = i
    · have : x.k ≠ r.k := fun q => h (by rw [← same_key nd hr hx q]; exact e)
      simp [e, this]
    · simp [e]
theorem ofilt {α : Type} (p : α → Bool) (a : α) : (some a).filter p = if p a then some a else none := rfl
theorem find_sub {l : List LR} (nd : NdK l) (i k : Int) : findK (sub i l) k = ((lfind l k).filter fun r => decide (r.s = i)).map it := by
  induction l with
  | nil => rfl
  | cons a t ih =>
    rw [NdK, List.map_cons, List.nodup_cons] at nd
    have ih := ih nd.2
    rw [sub_cons]
    have lf : lfind (a :: t) k = if a.k = k then some a else lfind t k := by
      unfold lfind; rw [List.find?_cons]
      by_cases e : a.k = k
      · rw [if_pos e, show (a.k == k) = true from by simpa using e]
      · rw [if_neg e, show (a.k == k) = false from by simpa using e]
    rw [lf]
    by_cases e : a.k = k
    · have hn : lfind t k = none := List.find?_eq_none.mpr fun x hx => by
        have : x.k ≠ k := fun q => nd.1 (by rw [e, ← q]; exact List.mem_map_of_mem hx)
        simpa using this
      rw [if_pos e]
      by_cases s : a.s = i
      · rw [if_pos s, ofilt, if_pos (by simpa using s)]
        unfold findK
        rw [List.find?_cons, show decide ((it a).k = k) = true from decide_eq_true e]; rfl
      · rw [if_neg s, ih, hn, ofilt, if_neg (by simpa using s)]; rfl
    · rw [if_neg e, ← ih]
      by_cases s : a.s = i
      · rw [if_pos s]
        unfold findK
        rw [List.find?_cons, show decide ((it a).k = k) = false from decide_eq_false e]
      · rw [if_neg s]
theorem has_sub {l : List LR} (nd : NdK l) (i k : Int) : hasK (sub i l) k = (lfind l k).any fun r => decide (r.s = i) := by
  rw [← findK_isSome, find_sub nd]
  cases lfind l k with
  | none => rfl
  | some r =>
    rw [ofilt]
    by_cases e : r.s = i
    · rw [if_pos (by simpa using e)]; simp [e]
    · rw [if_neg (by simpa using e)]; simp [e]
theorem ltot_cons (ss : List Int) (a : LR) (l : List LR) : ltot ss (a :: l) = (if ss.any (· == a.s) then a.z else 0) + ltot ss l := by
  unfold ltot
  rw [List.filter_cons]
  split <;> simp
theorem total_sub_cons (i : Int) (a : LR) (l : List LR) : total (sub i (a :: l)) = (if a.s = i then a.z else 0) + total (sub i l) := by
  rw [sub_cons]
  split
  · rw [total_cons]; rfl
  · simp
theorem ltot1 (i : Int) (l : List LR) : ltot [i] l = total (sub i l) := by
  induction l with
  | nil => rfl
  | cons a t ih =>
    rw [ltot_cons, total_sub_cons, ih]
    by_cases e : a.s = i
    · simp [e]
    · simp [e, Ne.symm e]
theorem ltot2 {i j : Int} (hij : i ≠ j) (l : List LR) : ltot [i, j] l = total (sub i l) + total (sub j l) := by
  induction l with
  | nil => rfl
  | cons a t ih =>
    rw [ltot_cons, total_sub_cons, total_sub_cons, ih]
    by_cases e : a.s = i
    · have : a.s ≠ j := fun q => hij (e.symm.trans q)
      simp [e, hij]; omega
    · by_cases f : a.s = j
      · simp [f, hij.symm]; omega
      · simp [e, f, Ne.symm e, Ne.symm f]
theorem ltot4 (l : List LR) : ltot [1, 2, 3, 4] l = total (sub 1 l) + total (sub 2 l) + total (sub 3 l) + total (sub 4 l) := by
  induction l with
  | nil => rfl
  | cons a t ih =>
    rw [ltot_cons, total_sub_cons, total_sub_cons, total_sub_cons, total_sub_cons, ih]
    by_cases e1 : a.s = 1
    · simp [e1]; omega
    · by_cases e2 : a.s = 2
      · simp [e2]; omega
      · by_cases e3 : a.s = 3
        · simp [e3]; omega
        · by_cases e4 : a.s = 4
          · simp [e4]; omega
          · simp [e1, e2, e3, e4, Ne.symm e1, Ne.symm e2, Ne.symm e3, Ne.symm e4]

/-! putting out -/
theorem abs_away {τ : LSt} (nd : NdK τ.rows) {r : LR} (hr : r ∈ τ.rows) (h2 : r.s = 1 ∨ r.s = 2) : abs (lawAway τ r) = putOut (abs τ) r.k := by
  have hf : lfind τ.rows r.k = some r := by
    cases e : lfind τ.rows r.k with
    | none => exact absurd rfl (lfind_none e r hr)
    | some x => rw [same_key nd hr (lfind_mem e).1 (lfind_mem e).2]
  unfold putOut
  have f1 : findK (abs τ).rcn r.k = ((some r).filter fun r => decide (r.s = 1)).map it := by rw [← hf]; exact find_sub nd 1 r.k
  have f2 : findK (abs τ).oft r.k = ((some r).filter fun r => decide (r.s = 2)).map it := by rw [← hf]; exact find_sub nd 2 r.k
  rw [f1, f2, ofilt, ofilt]
  unfold lawAway abs
  simp only [sub_append, sub_erase nd hr, sub_one]
  rcases h2 with e | e
  · simp [e, it]
  · simp [e, it]
theorem oldest_sub (τ : LSt) (i : Int) : oldestK (sub i τ.rows) τ.held = (freeS τ i).head?.map (·.k) := by
  unfold oldestK sub ofS freeS
  rw [List.find?_map, Option.map_map, List.head?_filter, List.find?_filter]
  have : (fun a : LR => decide ((a.s == i) = true ∧ ((fun i : It => !hin τ.held i.k) ∘ it) a = true)) = fun r => r.s == i && !hin τ.held r.k := by
    funext a
    show decide ((a.s == i) = true ∧ (!hin τ.held a.k) = true) = _
    cases (a.s == i) <;> cases (!hin τ.held a.k) <;> rfl
  rw [this]
  rfl
theorem next_goes (τ : LSt) (s : Bool) : nextOut (abs τ) s = (goesL τ s).head?.map (·.k) := by
  unfold nextOut goesL
  rw [ltot1]
  have a : oldestK (abs τ).rcn (abs τ).held = (freeS τ 1).head?.map (·.k) := oldest_sub τ 1
  have b : oldestK (abs τ).oft (abs τ).held = (freeS τ 2).head?.map (·.k) := oldest_sub τ 2
  rw [a, b]
  show (if total (sub 1 τ.rows) > τ.goal ∨ (s = true ∧ total (sub 1 τ.rows) = τ.goal) then _ else _) = _
  split
  · rw [List.head?_append]; cases (freeS τ 1).head? <;> rfl
  · rw [List.head?_append]; cases (freeS τ 2).head? <;> rfl
theorem nd_away {τ : LSt} (nd : NdK τ.rows) {r : LR} (hr : r ∈ τ.rows) : NdK (lawAway τ r).rows := nodup_swap nd hr rfl
theorem abs_lout : ∀ (n : Nat) {τ : LSt}, NdK τ.rows → ∀ z s, abs (lout n τ z s) = makeRoom n (abs τ) z s ∧ NdK (lout n τ z s).rows
  | 0, τ, nd, _, _ => ⟨rfl, nd⟩
  | n + 1, τ, nd, z, s => by
    unfold lout makeRoom
    have e : usedS (abs τ) = ltot [1, 2] τ.rows := (ltot2 (by decide) _).symm
    rw [e, next_goes]
    show abs (if ltot [1, 2] τ.rows + z > τ.most then _ else _) = (if ltot [1, 2] τ.rows + z > τ.most then _ else _) ∧ NdK (if ltot [1, 2] τ.rows + z > τ.most then _ else _ : LSt).rows
    split
    · cases hg : goesL τ s with
      | nil => exact ⟨rfl, nd⟩
      | cons r t =>
        have hm := goes_mem (τ := τ) (s := s) (r := r) (by rw [hg]; simp)
        have := abs_lout n (nd_away nd hm.1) z s
        rw [abs_away nd hm.1 hm.2] at this
        exact this
    · exact ⟨rfl, nd⟩
end Mine
end

section
open PySem PySem.W
namespace Mine
theorem nextOut_nil {σ : St} {s : Bool} (h : σ.rcn.length + σ.oft.length = 0) : nextOut σ s = none := by
  have a : σ.rcn = [] := List.length_eq_zero_iff.mp (by omega)
  have b : σ.oft = [] := List.length_eq_zero_iff.mp (by omega)
  unfold nextOut
  rw [a, b]
  dsimp only
  split <;> rfl
theorem room_zero {σ : St} {z : Int} {s : Bool} (h : σ.rcn.length + σ.oft.length = 0) : ∀ m, makeRoom m σ z s = σ
  | 0 => rfl
  | m + 1 => by unfold makeRoom; rw [nextOut_nil h]; split <;> rfl
theorem room_fuel : ∀ (n m : Nat) (σ : St) (z : Int) (s : Bool), σ.rcn.length + σ.oft.length ≤ n → σ.rcn.length + σ.oft.length ≤ m → makeRoom n σ z s = makeRoom m σ z s
  | 0, m, σ, z, s, hn, _ => by rw [room_zero (by omega), room_zero (by omega)]
  | n + 1, 0, σ, z, s, _, hm => by rw [room_zero (by omega), room_zero (by omega)]
  | n + 1, m + 1, σ, z, s, hn, hm => by
    unfold makeRoom
    split
    · cases e : nextOut σ s with
      | none => rfl
      | some k =>
        have := putOut_len (nextOut_has e)
        exact room_fuel n m _ z s (by omega) (by omega)
    · rfl
theorem sub_len (l : List LR) : (sub 1 l).length + (sub 2 l).length ≤ l.length := by
  induction l with
  | nil => simp [sub, ofS]
  | cons a t ih =>
    rw [sub_cons, sub_cons]
    by_cases e : a.s = 1
    · have : a.s ≠ 2 := by omega
      rw [if_pos e, if_neg this]; simp only [List.length_cons]; omega
    · rw [if_neg e]; split <;> simp only [List.length_cons] <;> omega
theorem abs_out {τ : LSt} (nd : NdK τ.rows) (z : Int) (s : Bool) : abs (lawOut τ z s) = roomS (abs τ) z s := by
  unfold lawOut roomS
  rw [(abs_lout _ nd z s).1]
  have := sub_len τ.rows
  exact room_fuel _ _ _ z s (by show (sub 1 τ.rows).length + (sub 2 τ.rows).length ≤ _; omega) (Nat.le_succ _)

/-! cutting -/
theorem ofS_cons {i : Int} {l : List LR} {r : LR} {t : List LR} (e : ofS i l = r :: t) : r ∈ l ∧ r.s = i := by
  have : r ∈ ofS i l := by rw [e]; simp
  obtain ⟨a, b⟩ := List.mem_filter.mp this
  exact ⟨a, by simpa using b⟩
theorem sub_nd {l : List LR} (nd : NdK l) (i : Int) : keysNd (sub i l) := by
  have e : (sub i l).map (·.k) = (ofS i l).map (·.k) := by unfold sub; rw [List.map_map]; rfl
  unfold keysNd
  rw [e]
  exact nd.sublist (List.filter_sublist.map _)
theorem lcut_sim {i : Int} {ss : List Int} {lim b : Int} : ∀ (n : Nat) (l : List LR), NdK l → (sub i l).length ≤ n → (∀ l' : List LR, NdK l' → (∀ j, j ≠ i → sub j l' = sub j l) → ltot ss l' = b + total (sub i l')) →
    sub i (lcut i ss lim n l) = cutL lim b (sub i l) ∧ (∀ j, j ≠ i → sub j (lcut i ss lim n l) = sub j l) ∧ NdK (lcut i ss lim n l)
  | 0, l, nd, hn, _ => by
    have : sub i l = [] := List.length_eq_zero_iff.mp (by omega)
    refine ⟨?_, fun _ _ => rfl, nd⟩
    show sub i l = _
    rw [this]; rfl
  | n + 1, l, nd, hn, ht => by
    unfold lcut
    cases e : ofS i l with
    | nil =>
      have : sub i l = [] := by unfold sub; rw [e]; rfl
      refine ⟨?_, fun _ _ => rfl, nd⟩
      show sub i l = _
      rw [this]; rfl
    | cons r t =>
      obtain ⟨hr, hs⟩ := ofS_cons e
      have es : sub i l = it r :: t.map it := by unfold sub; rw [e]; rfl
      have knd := sub_nd nd i
      have ed : sub i (l.erase r) = t.map it := by
        rw [sub_erase nd hr, if_pos hs, es]
        rw [es] at knd
        exact dropK_head knd
      have eo : ∀ j, j ≠ i → sub j (l.erase r) = sub j l := fun j hj => by rw [sub_erase nd hr, if_neg (by rw [hs]; exact hj.symm)]
      have nd' : NdK (l.erase r) := nd.sublist ((erase_sub l r).map _)
      dsimp only
      rw [ht l nd fun _ _ => rfl, es]
      rw [cutL]
      rw [← es]
      split
      · have := lcut_sim (i := i) (ss := ss) (lim := lim) (b := b) n (l.erase r) nd' (by rw [ed]; rw [es] at hn; simp at hn; simpa using hn) fun l' n' h' => ht l' n' fun j hj => (h' j hj).trans (eo j hj)
        refine ⟨by rw [this.1, ed], fun j hj => (this.2.1 j hj).trans (eo j hj), this.2.2⟩
      · exact ⟨rfl, fun _ _ => rfl, nd⟩
theorem sub_le (i : Int) (l : List LR) : (sub i l).length ≤ l.length := by unfold sub ofS; rw [List.length_map]; exact List.length_filter_le _ _
theorem abs_cut {τ : LSt} (nd : NdK τ.rows) : abs (lawCut τ) = cutS (abs τ) := by
  unfold lawCut
  dsimp only
  obtain ⟨a, b, c⟩ := lcut_sim (i := 3) (ss := [1, 3]) (lim := τ.most) (b := total (sub 1 τ.rows)) τ.rows.length τ.rows nd (sub_le _ _) fun l' _ h => by
    rw [ltot2 (by decide), h 1 (by decide)]
  generalize hl : lcut 3 [1, 3] τ.most τ.rows.length τ.rows = l at *
  obtain ⟨a', b', _⟩ := lcut_sim (i := 4) (ss := [1, 2, 3, 4]) (lim := 2 * τ.most) (b := total (sub 1 l) + total (sub 2 l) + total (sub 3 l)) l.length l c (sub_le _ _) fun l' _ h => by
    rw [ltot4, h 1 (by decide), h 2 (by decide), h 3 (by decide)]
  unfold abs cutS
  simp only [a', b' 1 (by decide), b' 2 (by decide), b' 3 (by decide), a, b 1 (by decide), b 2 (by decide), b 4 (by decide)]
end Mine
end

section
open PySem PySem.W
namespace Mine
theorem here_has {τ : LSt} (g : LGood τ) (k : Int) : isHere (lfind τ.rows k) = hasS (abs τ) k := by
  unfold hasS
  show _ = (hasK (sub 1 τ.rows) k || hasK (sub 2 τ.rows) k)
  rw [has_sub g.nd, has_sub g.nd]
  cases e : lfind τ.rows k with
  | none => rfl
  | some r =>
    have := (g.rg r (lfind_mem e).1).2.2
    show decide (r.s < 3) = (decide (r.s = 1) || decide (r.s = 2))
    rw [Bool.eq_iff_iff]; simp; omega
theorem sim_get {τ : LSt} (g : LGood τ) (k : Int) : getS (abs τ) k = (abs (lawGet τ k).1, (lawGet τ k).2) := by
  unfold getS lawGet
  have f1 : findK (abs τ).rcn k = ((lfind τ.rows k).filter fun r => decide (r.s = 1)).map it := find_sub g.nd 1 k
  have f2 : findK (abs τ).oft k = ((lfind τ.rows k).filter fun r => decide (r.s = 2)).map it := find_sub g.nd 2 k
  rw [f1, f2]
  cases e : lfind τ.rows k with
  | none => rfl
  | some r =>
    obtain ⟨hr, hk⟩ := lfind_mem e
    have hs := (g.rg r hr).2.2
    rw [ofilt, ofilt]
    dsimp only
    by_cases h1 : r.s = 1
    · have : ¬ r.s > 2 := by omega
      rw [if_pos (by simpa using h1), if_neg this, if_pos h1]
      unfold abs
      simp [sub_append, sub_erase g.nd hr, sub_one, h1, hk, it]
    · rw [if_neg (by simpa using h1)]
      by_cases h2 : r.s = 2
      · have : ¬ r.s > 2 := by omega
        rw [if_pos (by simpa using h2), if_neg this, if_neg h1]
        unfold abs
        simp [sub_append, sub_erase g.nd hr, sub_one, h2, hk, it]
      · rw [if_neg (by simpa using h2), if_pos (show r.s > 2 by omega)]
        rfl
theorem forget_sim {τ : LSt} (nd : NdK τ.rows) (rg : ∀ r ∈ τ.rows, 1 ≤ r.s ∧ r.s ≤ 4) (k : Int) : forgetS (abs τ) k = abs { τ with rows := match lfind τ.rows k with | none => τ.rows | some r => τ.rows.erase r } := by
  unfold forgetS
  have h1 : hasK (abs τ).rcn k = _ := has_sub nd 1 k
  have h2 : hasK (abs τ).oft k = _ := has_sub nd 2 k
  have h3 : hasK (abs τ).rg k = _ := has_sub nd 3 k
  have h4 : hasK (abs τ).og k = _ := has_sub nd 4 k
  rw [h1, h2, h3, h4]
  cases e : lfind τ.rows k with
  | none => rfl
  | some r =>
    obtain ⟨hr, hk⟩ := lfind_mem e
    have hs := rg r hr
    dsimp only
    unfold abs
    simp only [sub_erase nd hr, Option.any_some, hk]
    have : r.s = 1 ∨ r.s = 2 ∨ r.s = 3 ∨ r.s = 4 := by omega
    rcases this with q | q | q | q <;> simp [q]
theorem sim_drop {τ : LSt} (g : LGood τ) (k : Int) : dropS (abs τ) k = abs (lawDrop τ k).1 := by
  unfold dropS lawDrop
  rw [forget_sim g.nd fun r hr => (g.rg r hr).2.2]
  rfl
theorem sim_hold (τ : LSt) (k : Int) : holdS (abs τ) k = abs (lawHold τ k) := rfl
theorem sim_settle {τ : LSt} (nd : NdK τ.rows) : settleS (abs τ) = abs (lawSettle τ) := by
  unfold settleS lawSettle
  have : NdK (lawOut τ 0 false).rows := (abs_lout _ nd 0 false).2
  rw [abs_cut this, abs_out nd]
theorem sim_release {τ : LSt} (g : LGood τ) (k : Int) : releaseS (abs τ) k = abs (lawRelease τ k) := by
  unfold releaseS lawRelease
  dsimp only
  show (if (hat τ.held k).getD 0 - 1 = 0 then _ else _) = abs (if (hat τ.held k).getD 0 - 1 = 0 then _ else _)
  split
  · exact sim_settle (τ := { τ with held := hwo (hst τ.held k ((hat τ.held k).getD 0 - 1)) k }) g.nd
  · rfl
theorem sim_resize {τ : LSt} (g : LGood τ) (m : Int) : resizeS (abs τ) m = abs (lawResize τ m) := sim_settle (τ := { τ with most := m, goal := min τ.goal m }) g.nd
theorem fold_abs (K : List LR) : K.Nodup → ∀ τ : LSt, NdK τ.rows → (∀ r ∈ K, r ∈ τ.rows ∧ (r.s = 1 ∨ r.s = 2)) → abs (K.foldl lawAway τ) = (K.map (·.k)).foldl putOut (abs τ) ∧ NdK (K.foldl lawAway τ).rows := by
  induction K with
  | nil => intro _ τ nd _; exact ⟨rfl, nd⟩
  | cons a r ih =>
    intro nd τ ndk hs
    rw [List.nodup_cons] at nd
    have ha := hs a List.mem_cons_self
    have := ih nd.2 (lawAway τ a) (nd_away ndk ha.1) fun k hk => ⟨mem_away (r := a) (hs k (List.mem_cons_of_mem _ hk)).1 fun e => nd.1 (e ▸ hk), (hs k (List.mem_cons_of_mem _ hk)).2⟩
    rw [abs_away ndk ha.1 ha.2] at this
    exact this
theorem free_sub (τ : LSt) (i : Int) : freeK (sub i τ.rows) τ.held = (freeS τ i).map (·.k) := by
  unfold freeK sub ofS freeS
  rw [List.filter_map, List.map_map, List.filter_filter]
  congr 1
  refine List.filter_congr fun x _ => ?_
  exact Bool.and_comm _ _
theorem sim_clear {τ : LSt} (g : LGood τ) : clearS (abs τ) = (abs (lawClear τ).1, (lawClear τ).2) := by
  unfold clearS lawClear
  dsimp only
  have e : freeK (abs τ).rcn (abs τ).held ++ freeK (abs τ).oft (abs τ).held = (freeS τ 1 ++ freeS τ 2).map (·.k) := by
    rw [List.map_append, ← free_sub, ← free_sub]; rfl
  rw [e, List.length_map]
  obtain ⟨a, b⟩ := fold_abs _ (free_nd g) τ g.nd fun r hr => by
    have := freeB_mem hr
    have := (g.rg r this.1).2.2
    exact ⟨(freeB_mem hr).1, by have := (freeB_mem hr).2; omega⟩
  rw [abs_cut b, a]
theorem far_step {z own other : Int} (ho : 1 ≤ own) (hn : 0 ≤ other) : farOf z own other = stepOf z other own := by
  unfold farOf stepOf
  have m : max 1 own = own := by omega
  rw [m]
  by_cases h : other > own
  · rw [if_pos ⟨by omega, h⟩]
    have : 1 ≤ other / own := by rw [Int.le_ediv_iff_mul_le (by omega)]; omega
    rw [show max 1 (other / own) = other / own by omega]
  · rw [if_neg (by omega)]
    have : other / own ≤ 1 := by
      have : other / own < 2 := by rw [Int.ediv_lt_iff_lt_mul (by omega)]; omega
      omega
    rw [show max 1 (other / own) = 1 by omega]
end Mine
end

section
open PySem PySem.W
namespace Mine
theorem tot_pos {τ : LSt} (g : LGood τ) {r : LR} (hr : r ∈ τ.rows) {i : Int} (hs : r.s = i) : 1 ≤ total (sub i τ.rows) := by
  have nn : ∀ l : List LR, (∀ x ∈ l, 1 ≤ x.z) → 0 ≤ total (sub i l) := fun l => by
    induction l with
    | nil => intro _; simp [sub, ofS, total]
    | cons a t ih =>
      intro h
      have := ih fun x hx => h x (List.mem_cons_of_mem _ hx)
      have := h a List.mem_cons_self
      rw [total_sub_cons]; split <;> omega
  have key : ∀ l : List LR, (∀ x ∈ l, 1 ≤ x.z) → r ∈ l → 1 ≤ total (sub i l) := fun l => by
    induction l with
    | nil => intro _ h; cases h
    | cons a t ih =>
      intro h hm
      have ha := h a List.mem_cons_self
      have ht := nn t fun x hx => h x (List.mem_cons_of_mem _ hx)
      rw [total_sub_cons]
      rcases List.mem_cons.mp hm with rfl | hm
      · rw [if_pos hs]; omega
      · have := ih (fun x hx => h x (List.mem_cons_of_mem _ hx)) hm
        split <;> omega
  exact key τ.rows (fun x hx => (g.rg x hx).2.1.1) hr
theorem tot_nn {τ : LSt} (g : LGood τ) (i : Int) : 0 ≤ total (sub i τ.rows) := by
  have := (g.tot [i]).1
  rwa [ltot1] at this
theorem LGood.nd_out {τ : LSt} (nd : NdK τ.rows) (z : Int) (s : Bool) : NdK (lawOut τ z s).rows := (abs_lout _ nd z s).2
theorem nd_add {l : List LR} (nd : NdK l) {r : LR} (h : ∀ x ∈ l, x.k ≠ r.k) : NdK (l ++ [r]) := by
  unfold NdK
  rw [List.map_append, List.nodup_append]
  refine ⟨nd, by simp, ?_⟩
  intro a ha b hb
  simp only [List.map_cons, List.map_nil, List.mem_singleton] at hb
  rw [hb]; rintro rfl
  obtain ⟨x, hx, e⟩ := List.mem_map.mp ha
  exact h x hx e
theorem abs_add (τ : LSt) (b : Bool) (k z : Int) (v : Option Int) : abs { τ with rows := τ.rows ++ [⟨if b then 2 else 1, k, z, v⟩] } = addS (abs τ) b ⟨k, v, z⟩ := by
  unfold abs addS
  cases b <;> simp [sub_append, sub_one, it]
theorem sim_tail {τ : LSt} (nd : NdK τ.rows) (b : Bool) {k z : Int} {v : Option Int} (s : Bool) (h : ∀ x ∈ τ.rows, x.k ≠ k) :
    cutS (addS (roomS (abs τ) z s) b ⟨k, v, z⟩) = abs (lawCut (let τ' := lawOut τ z s; { τ' with rows := τ'.rows ++ [⟨if b then 2 else 1, k, z, v⟩] })) := by
  dsimp only
  rw [abs_cut (nd_add (LGood.nd_out nd z s) fun x hx => lout_keys _ h x hx), abs_add, abs_out nd]
theorem sim_put {τ : LSt} (g : LGood τ) (k : Int) (v : Option Int) (z : Int) : putS (abs τ) k v z = (abs (lawPut τ k v z).1, (lawPut τ k v z).2) := by
  unfold putS lawPut
  show (if z > τ.most then _ else _) = _
  by_cases hz : z > τ.most
  · rw [if_pos hz, if_pos hz, sim_drop g]
  rw [if_neg hz, if_neg hz]
  have h3 : hasK (abs τ).rg k = _ := has_sub g.nd 3 k
  have h4 : hasK (abs τ).og k = _ := has_sub g.nd 4 k
  have hh := here_has g k
  unfold rowForS
  rw [h3, h4, ← hh]
  cases e : lfind τ.rows k with
  | none =>
    have hf := forget_sim g.nd (fun r hr => (g.rg r hr).2.2) k
    rw [e] at hf
    show (cutS (addS (roomS (forgetS (abs τ) k) z false) false ⟨k, v, z⟩), true) = _
    rw [hf, sim_tail (τ := τ) g.nd false false (lfind_none e)]
    rfl
  | some r =>
    obtain ⟨hr, rfl⟩ := lfind_mem e
    have hs := (g.rg r hr).2.2
    have hek := erase_keys g.nd hr
    have nde : NdK (τ.rows.erase r) := g.nd.sublist ((erase_sub _ r).map _)
    have t3 : total (abs τ).rg = ltot [3] τ.rows := (ltot1 3 _).symm
    have t4 : total (abs τ).og = ltot [4] τ.rows := (ltot1 4 _).symm
    simp only [Option.any_some, isHere]
    rw [t3, t4]
    have n3 := tot_nn g 3
    have n4 := tot_nn g 4
    rw [← ltot1] at n3 n4
    have c : r.s = 3 ∨ r.s = 4 ∨ r.s < 3 := by omega
    rcases c with q | q | q
    · have p3 := tot_pos g hr q
      rw [← ltot1] at p3
      have hf := forget_sim (τ := { τ with goal := min τ.most (τ.goal + stepOf z (ltot [4] τ.rows) (ltot [3] τ.rows)), cn := { τ.cn with rs := τ.cn.rs + 1 } }) g.nd (fun r hr => (g.rg r hr).2.2) r.k
      dsimp only at hf
      rw [e] at hf
      have st := sim_tail (τ := { τ with goal := min τ.most (τ.goal + stepOf z (ltot [4] τ.rows) (ltot [3] τ.rows)), cn := { τ.cn with rs := τ.cn.rs + 1 }, rows := τ.rows.erase r }) nde true (k := r.k) (z := z) (v := v) false hek
      rw [← hf] at st
      have e3 : decide (r.s = 3) = true := decide_eq_true q
      have e4 : decide (r.s = 4) = false := decide_eq_false (by omega)
      have g2 : r.s > 2 := by omega
      have n4' : ¬ r.s = 4 := by omega
      simp only [e3, e4, if_true]
      rw [if_neg n4', if_pos g2, if_pos q, if_pos q, far_step p3 n4]
      exact congrArg (·, true) st
    · have p4 := tot_pos g hr q
      rw [← ltot1] at p4
      have hf := forget_sim (τ := { τ with goal := max 0 (τ.goal - stepOf z (ltot [3] τ.rows) (ltot [4] τ.rows)), cn := { τ.cn with os := τ.cn.os + 1 } }) g.nd (fun r hr => (g.rg r hr).2.2) r.k
      dsimp only at hf
      rw [e] at hf
      have st := sim_tail (τ := { τ with goal := max 0 (τ.goal - stepOf z (ltot [3] τ.rows) (ltot [4] τ.rows)), cn := { τ.cn with os := τ.cn.os + 1 }, rows := τ.rows.erase r }) nde true (k := r.k) (z := z) (v := v) true hek
      rw [← hf] at st
      have e3 : decide (r.s = 3) = false := decide_eq_false (by omega)
      have e4 : decide (r.s = 4) = true := decide_eq_true q
      have g2 : r.s > 2 := by omega
      have n3' : ¬ r.s = 3 := by omega
      simp only [e3, e4, if_true, Bool.false_eq_true, if_false]
      rw [if_pos q, if_pos g2, if_neg n3', if_neg n3', far_step p4 n3]
      exact congrArg (·, true) st
    · have hf := forget_sim (τ := τ) g.nd (fun r hr => (g.rg r hr).2.2) r.k
      rw [e] at hf
      dsimp only at hf
      have st := sim_tail (τ := { τ with rows := τ.rows.erase r }) nde true (k := r.k) (z := z) (v := v) false hek
      rw [← hf] at st
      have e3 : decide (r.s = 3) = false := decide_eq_false (by omega)
      have e4 : decide (r.s = 4) = false := decide_eq_false (by omega)
      have eh : decide (r.s < 3) = true := decide_eq_true q
      have g2 : ¬ r.s > 2 := by omega
      simp only [e3, e4, eh, Bool.false_eq_true, if_false]
      rw [if_neg g2]
      exact congrArg (·, true) st
theorem sim {τ : LSt} (g : LGood τ) (what k far : Int) : cacheDo (abs τ) what k far = (abs (lawDue τ what k far).1, (lawDue τ what k far).2) := by
  unfold cacheDo lawDue
  rw [sim_get g, sim_put g, sim_drop g, sim_release g, sim_resize g, sim_clear g, ← here_has g, sim_hold]
  show (if what < 2 then _ else if what < 5 then _ else if what = 5 then _ else if what = 6 then (if far % 3 = 0 then (if hin τ.held k = true then _ else _) else _) else _) = _
  (repeat' split) <;> first | rfl | simp_all [lawDrop]

/-! what stays so -/
theorem LGood.lget {τ : LSt} (g : LGood τ) {k : Int} (hk : 0 ≤ k ∧ k < 8) : LGood (lawGet τ k).1 := by
  unfold lawGet
  split
  · exact g.setCn _
  · rename_i r e
    obtain ⟨hr, hk'⟩ := lfind_mem e
    have := g.rg r hr
    split
    · exact g.setCn _
    · refine (LGood.setCn (τ := { τ with rows := τ.rows.erase r ++ [⟨2, k, r.z, r.v⟩] }) (g.setRows (nodup_swap g.nd hr hk'.symm) ?_) _)
      intro x hx
      rcases List.mem_append.mp hx with hx | hx
      · exact g.rg x ((erase_sub _ _).subset hx)
      · rw [List.mem_singleton.mp hx]; exact ⟨hk, this.2.1, by show (1:Int) ≤ 2 ∧ (2:Int) ≤ 4; decide⟩
theorem LGood.ldrop {τ : LSt} (g : LGood τ) (k : Int) : LGood (lawDrop τ k).1 := by
  unfold lawDrop
  refine (LGood.subRows (τ := { τ with held := hwo τ.held k }) (g.wo k) ?_)
  split
  · exact List.Sublist.refl _
  · exact erase_sub _ _
theorem LGood.settle {τ : LSt} (g : LGood τ) : LGood (lawSettle τ) := (g.out 0 false).cut
theorem LGood.release {τ : LSt} (g : LGood τ) {k : Int} (hk : 0 ≤ k ∧ k < 8) : LGood (lawRelease τ k) := by
  unfold lawRelease
  dsimp only
  split
  · exact ((g.hst hk).wo k).settle
  · exact g.hst hk
theorem LGood.clear {τ : LSt} (g : LGood τ) : LGood (lawClear τ).1 := (fold_lgood _ (free_nd g) τ g fun r hr => freeB_mem hr).cut
theorem LGood.tail {τ : LSt} (g : LGood τ) {k z i : Int} {v : Option Int} (s : Bool) (hk : 0 ≤ k ∧ k < 8) (hz : 1 ≤ z ∧ z ≤ 5) (hi : 1 ≤ i ∧ i ≤ 4) (h : ∀ x ∈ τ.rows, x.k ≠ k) :
    LGood (lawCut (let τ' := lawOut τ z s; { τ' with rows := τ'.rows ++ [⟨i, k, z, v⟩] })) :=
  ((g.out z s).addRow (r := ⟨i, k, z, v⟩) (fun x hx => lout_keys _ h x hx) ⟨hk, hz, hi⟩).cut
theorem LGood.lput {τ : LSt} (g : LGood τ) {k z : Int} (v : Option Int) (hk : 0 ≤ k ∧ k < 8) (hz : 1 ≤ z ∧ z ≤ 5) : LGood (lawPut τ k v z).1 := by
  unfold lawPut
  split
  · exact g.ldrop k
  · split
    · rename_i e; exact g.tail false hk hz (by decide) (lfind_none e)
    · rename_i r e
      obtain ⟨hr, rfl⟩ := lfind_mem e
      dsimp only
      have far_nn : ∀ a b : Int, 0 ≤ a → 0 ≤ b → 0 ≤ farOf z a b := fun a b ha hb => by
        unfold farOf
        refine Int.mul_nonneg (by omega) ?_
        split
        · exact Int.ediv_nonneg hb ha
        · decide
      have n3 := (g.tot [3]).1
      have n4 := (g.tot [4]).1
      have mp := g.mp
      have gp := g.gp
      have ge := g.subRows (erase_sub τ.rows r)
      have f1 := far_nn _ _ n4 n3
      have f2 := far_nn _ _ n3 n4
      by_cases g2 : r.s > 2
      · simp only [if_pos g2]
        have gg : ∀ (G : Int) (N : Cn), 0 ≤ G ∧ G ≤ 12 → LGood { τ with goal := G, cn := N, rows := τ.rows.erase r } := fun G N h => ⟨ge.nd, ge.rg, g.hn, g.hr, g.mp, h⟩
        refine LGood.tail (gg _ _ ?_) _ hk hz (i := 2) (by decide) (erase_keys g.nd hr)
        split <;> split <;> omega
      · simp only [if_neg g2]
        exact LGood.tail ge _ hk hz (i := 2) (by decide) (erase_keys g.nd hr)
theorem LGood.due {τ : LSt} (g : LGood τ) {what k far : Int} (hk : 0 ≤ k ∧ k < 8) : LGood (lawDue τ what k far).1 := by
  unfold lawDue
  (repeat' split)
  · exact g.lget hk
  · exact g.lput _ hk (by omega)
  · exact g
  · exact g.ldrop k
  · exact g.release hk
  · exact g
  · exact g.hst hk
  · exact g
  · exact g.clear
  · exact g
  · exact g
  · exact (g.resize (by omega)).settle
theorem Rg_sub {τ : LSt} (g : LGood τ) (i : Int) : Rg (sub i τ.rows) := fun x hx => by
  obtain ⟨r, hr, rfl⟩ := List.mem_map.mp hx
  have := g.rg r (List.mem_filter.mp hr).1
  exact ⟨this.1, this.2.1⟩
theorem Dj_sub {τ : LSt} (g : LGood τ) {i j : Int} (h : i ≠ j) : Dj (sub i τ.rows) (sub j τ.rows) := fun k hk => by
  rw [has_sub g.nd] at hk ⊢
  cases e : lfind τ.rows k with
  | none => rfl
  | some r =>
    rw [e] at hk
    have : r.s = i := by simpa using hk
    exact decide_eq_false (by rw [this]; exact h)
theorem LGood.good {τ : LSt} (g : LGood τ) : Good (abs τ) :=
  ⟨sub_nd g.nd 1, sub_nd g.nd 2, sub_nd g.nd 3, sub_nd g.nd 4, Dj_sub g (by decide), Dj_sub g (by decide), Dj_sub g (by decide), Dj_sub g (by decide), Dj_sub g (by decide), Dj_sub g (by decide),
    Rg_sub g 1, Rg_sub g 2, Rg_sub g 3, Rg_sub g 4, g.hn, g.hr, g.mp, g.gp⟩
end Mine
end

section
open PySem PySem.W PyProof.Rows PySem.Calls PySem.SeqAt
namespace Mine
/-! the text's own part of a heap -/
def cutH (h : Heap) : Heap := { h with objs := h.objs.extract 0 350 }
theorem cutH_get {h : Heap} {a : Nat} (ha : a < 350) : (cutH h).get? a = h.get? a := by
  unfold Heap.get? cutH
  have : (h.objs.extract 0 350)[a]? = h.objs[a]? := by
    rw [Array.getElem?_extract]
    by_cases q : a < h.objs.size
    · rw [if_pos (by omega)]; simp
    · rw [if_neg (by omega)]; exact (Array.getElem?_eq_none (by omega)).symm
  dsimp only
  rw [this]
theorem cutH_lt {h : Heap} {a : Nat} {o : Obj} (e : (cutH h).get? a = some o) : a < 350 := by
  have : a < (cutH h).objs.size := Heap.lt_size e
  unfold cutH at this
  simp at this
  omega
theorem cutH_old {h : Heap} {a : Nat} {o : Obj} (e : (cutH h).get? a = some o) : h.get? a = some o := by
  rw [← cutH_get (cutH_lt e)]; exact e
theorem cutH_ns {h : Heap} {a : Nat} {m : Str → Option Value} (ha : a < 350) (x : h.Ns a m) : (cutH h).Ns a m := by
  obtain ⟨o, es, ep, e, r⟩ := x
  exact ⟨o, es, ep, (cutH_get ha).trans e, r⟩
theorem K_lt (P : Params) {a : Nat} {o : Obj} (e : (KF P).lookup a = some o) : a < 350 := by
  have h : (KF P).all (fun x => decide (x.1 < 350)) = true := by rfl
  have m : (a, o) ∈ KF P := by
    have : ∀ l : List (Addr × Obj), l.lookup a = some o → (a, o) ∈ l := fun l => by
      induction l with
      | nil => intro h; simp at h
      | cons x t ih =>
        intro h
        rw [List.lookup_cons] at h
        split at h
        · rename_i q
          cases h
          rw [beq_iff_eq.mp q]; exact List.mem_cons_self
        · exact List.mem_cons_of_mem _ (ih h)
    exact this _ e
  exact of_decide_eq_true (List.all_eq_true.mp h _ m)
theorem Base.of {w : World} {p : Program} {loose : List Str} {mg mb : Str → Option Value} {h : Heap} (X : (KF w.params).In h) (T : TopRead p loose mg mb h) : Base w (cutH h) where
  X := fun a o e => (cutH_get (K_lt _ e)).trans (X a o e)
  T := ⟨p, loose, mg, mb, cutH_ns (by decide) T.g, cutH_ns (by decide) T.b, let ⟨mc, a, b⟩ := T.nolimit; ⟨mc, cutH_ns (by decide) a, b⟩, T.builtins, T.free⟩
  size := by
    have e : ∃ o, (KF w.params).lookup 349 = some o := ⟨_, by k_is⟩
    obtain ⟨o, e⟩ := e
    have := Heap.lt_size (X _ _ e)
    unfold cutH
    simp
    exact Nat.min_eq_left (by exact this)

section
variable {prog : Program} {w : World} {c : Cx} {A : Around} {E : Value → Heap → Prop} {base h : Heap} {env : Env}

theorem w_stc {x : Str} {a : Addr} {v₀ : Option Value} {v : Value} {Q : Unit → Heap → Prop} (hv : h.IsCell a v₀) (q : ∀ h', h'.IsCell a (some v) → Kept [a] h h' → Q () h')
    (hk : env.scope.kind = .function := by rfl) (hl : env.kindOf x = some .cell := by rfl) (hc : env.cells.lookup x = some a := by rfl) : W prog w c A (storeName env x v) Q E h :=
  ⟨fun n => wpAny_storeName_cell (s := c.st h n) hk hl hc hv fun h' x s => ⟨_, _, rfl, q h' x (Kept.of_sb s)⟩⟩

/-- a[lower:upper] of a list -/
theorem w_slice {value : Expr} {lower upper : Option Expr} {p pos : Pos} {Q : Value → Heap → Prop}
    (y : W prog w c A (eval value env) (fun o h₁ => W prog w c A (evalPart lower env) (fun vl h₂ => W prog w c A (evalPart upper env) (fun vu h₃ =>
      ∃ l vs lo hi, o = .ref l ∧ h₃.IsList l (vs : List Value).toArray ∧ vs.length ≤ 100000 ∧ IsPart vl lo ∧ IsPart vu hi ∧ ∀ h' D, Kept [] h₃ h' → PL h' D (slicePick vs.toArray lo hi none).toList → h₃.objs.size ≤ D → Q (.ref D) h') E h₂) E h₁) E h)
    (ht : ∀ o r, letTemporaryGo value o r = pure () := by intro _ _; rfl) : W prog w c A (eval (.Subscript value (.Slice lower upper none p) pos) env) Q E h := by
  refine ⟨fun n => wpAny_Subscript_list_slice (y.go fun o h₁ n₁ q => q.go fun vl h₂ n₂ q => q.go fun vu h₃ n₃ q => ?_) ht⟩
  obtain ⟨l, vs, lo, hi, rfl, p, hl, p1, p2, q⟩ := q
  refine ⟨l, vs.toArray, lo, hi, rfl, p, by rw [sizeLine_eq]; simp; omega, p1, p2, _, _, rfl, q _ _ ((Kept.push _ _).trans (Kept.push _ _)) ⟨0, ?_⟩ (Nat.le_succ _)⟩
  have e1 := Heap.get?_push_size (h₃.push { cls := .type "slice", data := .fields #[vl, vu, .none] }) (o := { cls := .type "list", data := .seq (slicePick vs.toArray lo hi none) }) rfl
  rw [Heap.size_push] at e1
  simpa using e1
theorem w_part0 {Q : Value → Heap → Prop} (q : Q .none h) : W prog w c A (evalPart none env) Q E h := w_pure q
theorem w_part {e : Expr} {Q : Value → Heap → Prop} (y : W prog w c A (eval e env) Q E h) : W prog w c A (evalPart (some e) env) Q E h := y

/-! a dict display by texts -/
theorem w_pairs0 {Q : List (Value × Value) → Heap → Prop} (q : Q [] h) : W prog w c A (evalPairs []) Q E h := w_pure q
theorem w_pairs {k v : Sem Value} {rest : List (Sem Value × Sem Value)} {Q : List (Value × Value) → Heap → Prop}
    (y : W prog w c A k (fun kv h₁ => W prog w c A v (fun vv h₂ => W prog w c A (evalPairs rest) (fun vs => Q ((kv, vv) :: vs)) E h₂) E h₁) E h) : W prog w c A (evalPairs ((k, v) :: rest)) Q E h :=
  ⟨fun n => wpAny_bind (y.go fun kv h₁ n₁ y => wpAny_bind (wpAny_holding (y.go fun vv h₂ n₂ y => wpAny_bind (wpAny_holding (y.go fun vs h₃ n₃ q => wpAny_pure ⟨h₃, n₃, rfl, q⟩)))))⟩
theorem w_stood {e : Expr} {pos : Pos} {Q : Value → Heap → Prop} (y : W prog w c A (eval e env) Q E h) : W prog w c A (do let x ← eval e env; standAt pos; pure x) Q E h :=
  ⟨fun n => wpAny_bind (y.go fun v h' n' q => wpAny_bind (wpAny_standAt (wpAny_pure ⟨h', n', rfl, q⟩)))⟩
theorem w_DictS {keys : List (Option Expr)} {values : List Expr} {pos : Pos} {Q : Value → Heap → Prop}
    (y : ∀ h', Kept [] h h' → h.objs.size < h'.objs.size → W prog w c A (evalPairs (pairTrees keys values env pos)) (fun vs h₁ => Kept [] h' h₁ ∧ ∃ kvs : List (Str × Value), Carries (strKind prog w) vs kvs ∧ (kvs.map (·.1)).Nodup ∧
      ∀ h₂, DS prog w h₂ h.objs.size kvs → Kept [h.objs.size] h₁ h₂ → Q (.ref h.objs.size) h₂) E h')
    (hall : keys.all (·.isSome) = true := by rfl) (hl : keys.length = values.length := by rfl) (h0 : keys ≠ [] := by simp) (hlen : keys.length ≤ 15 := by decide) : W prog w c A (eval (.Dict keys values pos) env) Q E h := by
  refine ⟨fun n => wpAny_Dict_walk (knd := strKind prog w) (s := c.st h n) hall hl h0 hlen (W.go (c := c) (y (h.push { cls := .type "dict", data := .dict #[] }) (Kept.push _ _) (by rw [Heap.size_push]; exact Nat.lt_succ_self _)) fun vs h₁ n₁ q => ?_)⟩
  obtain ⟨k, kvs, hc, nd, q⟩ := q
  refine ⟨kvs, hc, ?_, fun h' d sb => ⟨h', _, rfl, q h' (by rw [merged_nil_of_nodup _ nd] at d; exact d) (Kept.of_sb sb)⟩⟩
  obtain ⟨o, es, ep, e, r⟩ := (Heap.DictOf.new (knd := PySem.strKind prog w) h)
  exact ⟨o, es, ep, k.all _ _ e, r⟩

/-- [0] * 6 -/
theorem w_lmul {l : Addr} {vs : List Value} {x : Int} {u : Tok} {Q : Value → Heap → Prop} (p : PL h l vs) (h0 : vs ≠ []) (hx : 0 ≤ x ∧ x ≤ 1000) (hl : vs.length ≤ 1000)
    (q : ∀ h', Kept [] h h' → PL h' h.objs.size (List.foldl (fun x1 x2 => x1 ++ x2) #[] (List.replicate x.toNat vs.toArray)).toList → Q (.ref h.objs.size) h') : W prog w c A (binaryOp .Mult (.ref l) (.int x u)) Q E h := by
  obtain ⟨k, e⟩ := p
  refine ⟨fun n => ?_⟩
  have hb : vs.toArray.size * x.toNat ≤ 1000000 := by
    rw [List.size_toArray]
    have h1 : x.toNat ≤ 1000 := by omega
    exact Nat.mul_le_mul hl h1
  refine wpAny_binaryOp_repeat_ref (T := "list") (U := "int") (by decide) ⟨_, e, rfl⟩ (fun s' => typeIs_int s' x u) noFill_list_mul F.fills_int_mul F.slot_int_rmul repeat_list F.slot_int_index.lookup
    (call_meets F.slot_int_rmul (typeIs_int (c.st h n) x u) F.entry_int_rmul (F.args_int_rmul_2 _ _) (int___rmul___int_list x u l vs.toArray k)
      ⟨e, rfl, ⟨_, e, rfl⟩, call_meets F.slot_list_mul ⟨_, e, rfl⟩ F.entry_list_mul (F.args_list_mul_2 _ _)
        (AutoListH.list___mul___list_int_3 l vs.toArray k x u (by simp [Builtin.List.listFitsIndex]; omega) (by omega) ?_)
        ⟨e, ?_⟩⟩)
  · simp [Builtin.List.listTooLong, sizeLine] at hb ⊢; omega
  · have e0 : vs.toArray.isEmpty = false := by simpa using h0
    rw [e0]
    exact ⟨_, _, rfl, q _ (Kept.push _ _) ⟨0, by simpa using Heap.get?_push_size h (o := { cls := .type "list", data := .seq (List.foldl (fun x1 x2 => x1 ++ x2) #[] (List.replicate x.toNat vs.toArray)) }) rfl⟩⟩
end
end Mine
end

section
open PySem PySem.W PyProof.Rows PySem.Calls PySem.SeqAt
namespace Mine
section
variable {prog : Program} {w : World} {c : Cx} {A : Around} {E : Value → Heap → Prop} {base h : Heap} {env : Env}

theorem w_enum {l : Addr} {vs : List Value} {Q : Value → Heap → Prop} (p : PL h l vs)
    (q : ∀ h', IsEnum h' (h.objs.size + 1) h.objs.size 0 .none → h'.IsListIter h.objs.size l 0 → h'.objs.size = h.objs.size + 2 → Kept [] h h' → Q (.ref (h.objs.size + 1)) h') : W prog w c A (call (.type "enumerate") [.ref l]) Q E h :=
  ⟨fun n => call_enumerate_list (s := c.st h n) p.isList fun h' a b d k => ⟨h', _, rfl, q h' a b d (Kept.of_all k)⟩⟩
theorem w_iterE {e it : Addr} {i : Int} {old : Value} {Q : Value → Heap → Prop} (x : IsEnum h e it i old) (q : Q (.ref e) h) : W prog w c A (pyIter (.ref e)) Q E h :=
  ⟨fun n => wpAny_pyIter_enum (s := c.st h n) x ⟨h, n, rfl, q⟩⟩

/-- for i, v in enumerate(list) -/
theorem w_ForE {xi xv : Str} {pi pv pt pos : Pos} {x1 : Nat} {iter : Expr} {body orelse : List Stmt} {Q : Flow → Heap → Prop} (hh : A.handled = none)
    (y : W prog w c A (eval iter env) (fun v h₁ => W prog w c A (pyIter v) (fun it h₂ => ∃ e itr l vs, ∃ Inv : Nat → Heap → Prop, it = .ref e ∧ e ≠ itr ∧ l ≠ e ∧ l ≠ itr ∧ IsEnum h₂ e itr 0 .none ∧ h₂.IsListIter itr l 0 ∧ PL h₂ l vs ∧ Inv 0 h₂ ∧
      (∀ i h h', Inv i h → Kept [e, itr] h h' → Inv i h') ∧
      (∀ i v t h, vs[i]? = some v → (∃ o, h.get? e = some o) → Inv i h → W prog w c A (storeName env xi (.int i t)) (fun _ h₂ => W prog w c A (storeName env xv v) (fun _ h₃ => W prog w c A (execs body env) (fun f h₄ => match f with
        | .next | .cont => Inv (i + 1) h₄ ∧ ∃ S, Kept S h h₄ ∧ e ∉ S ∧ itr ∉ S ∧ l ∉ S
        | .brk => Q .next h₄
        | .ret v => Q (.ret v) h₄) NoE h₃) NoE h₂) NoE h) ∧
      (∀ h, Inv vs.length h → W prog w c A (execs orelse env) Q NoE h)) E h₁) E h)
    (hs : ∀ x, foldedSetIterable iter env x = pure x := by intro _; rfl) :
    W prog w c A (exec (.For (.Tuple [.Name xi pi, .Name xv pv] x1 pt) iter body orelse pos) env) Q E h := by
  refine ⟨fun n₀ => wpAny_For (y.go fun v h₁ n₁ q => q.go fun it h₂ n₂ q => ?_) hs⟩
  obtain ⟨e, itr, l, vs, Inv, rfl, hei, hle, hli, he, hit, pl, inv0, hst, turn, fin⟩ := q
  have Wk := WalksT.enumerate (prog := prog) (w := w) hh e itr l hei hle hli vs.toArray
  refine codeAny_forLoop_any (fun m s => ∃ i hh tk, s = c.st hh tk ∧ i ≤ vs.length ∧ m = vs.length - i ∧ ((∃ old, IsEnum hh e itr (i : Nat) old) ∧ hh.IsListIter itr l i ∧ hh.IsList l vs.toArray) ∧ Inv i hh) ?_ (vs.length - 0) ⟨0, h₂, n₂, rfl, Nat.zero_le _, rfl, ⟨⟨_, he⟩, hit, pl.isList⟩, inv0⟩
  rintro m s ⟨i, hh, tk, rfl, hi, rfl, st, inv⟩
  by_cases hlt : i < vs.length
  · refine Wk.item i _ _ _ (by simpa using hlt) st fun T vals h₁ tk₁ hPt _ hT hMid hk₁ => ?_
    obtain ⟨t, v, hv, rfl⟩ := hPt
    refine Wk.go _ x1 pt i T _ _ _ hMid fun h₂ st₂ hk₂ => ?_
    have ht₂ : h₂.IsTuple T #[.int i t, v] := hT.at fun o e => hk₂ T o (Wk.apart i T h₁ hMid) e
    refine wpAny_assign_Tuple ‹A.handled = none› ht₂ rfl rfl fun h₃ hx₃ => ?_
    have k3 : Kept [] h₂ h₃ := ext_fresh hx₃
    have k03 : Kept [e, itr] hh h₃ := fun b o x n => k3.all b o (hk₂ b o (by simpa using n) (hk₁ b o (by simpa using n) x))
    have inv₃ := hst i hh h₃ inv k03
    show wpAny _ A (do holding [v] (assign (.Name xi pi) env (.int i t)); do holding [] (assign (.Name xv pv) env v); pure ()) _ _ _
    refine wpAny_bind (wpAny_holding (wpAny_assign_Name ?_))
    refine noted_false (c := c) ((turn i v t h₃ (by simpa using hv) (by obtain ⟨⟨o, q⟩, _⟩ := st₂; exact ⟨_, k3.all _ _ q⟩) inv₃).go fun _ h₄ n₄ q => ?_)
    refine wpAny_bind (wpAny_holding (wpAny_assign_Name (noted_false (c := c) (q.go fun _ h₅ n₅ q => wpAny_pure ?_))))
    refine noted_false (c := c) (q.go fun f h₆ n₆ q => ?_)
    have nxt : ∀ S, Kept S h₃ h₆ → e ∉ S → itr ∉ S → l ∉ S → ((∃ old, IsEnum h₆ e itr ((i + 1 : Nat) : Int) old) ∧ h₆.IsListIter itr l (i + 1) ∧ h₆.IsList l vs.toArray) := fun S k n1 n2 n3 =>
      Wk.frame _ _ _ st₂ fun b hb o x => by
        refine k b o (k3.all _ _ x) ?_
        simp only [List.mem_cons, List.not_mem_nil, or_false] at hb
        rcases hb with rfl | rfl | rfl <;> assumption
    cases f with
    | next => obtain ⟨q, S, k, n1, n2, n3⟩ := q; exact ⟨vs.length - (i + 1), by omega, i + 1, h₆, n₆, rfl, hlt, rfl, nxt S k n1 n2 n3, q⟩
    | cont => obtain ⟨q, S, k, n1, n2, n3⟩ := q; exact ⟨vs.length - (i + 1), by omega, i + 1, h₆, n₆, rfl, hlt, rfl, nxt S k n1 n2 n3, q⟩
    | brk => exact ⟨h₆, n₆, rfl, q⟩
    | ret v => exact ⟨h₆, n₆, rfl, q⟩
  · have e1 : i = vs.length := by omega
    subst e1
    refine Wk.done _ _ _ (by simpa using st) fun h' tk' hk => noted_false (c := c) ?_
    exact ((fin h' (hst _ hh h' inv (fun b o e n => hk b o (by simpa using n) e))).out tk')
end
end Mine
end

section
open PySem PySem.W PyProof.Rows PySem.Calls PySem.SeqAt
namespace Mine
section
variable {prog : Program} {w : World} {c : Cx} {A : Around} {E : Value → Heap → Prop} {base h : Heap} {env : Env}

theorem x_newEnvC {M : Model} {E : Value → Shared → Prop} {s : Shared} {scope : Scope} {globals : Addr} {cl : List (Str × Addr)} {qual : Str} {env : Env} {Q : Env → Shared → Prop}
    (hQ : Q { scope, locals := s.heap.objs.size, globals, cells := cellsFrom (s.heap.objs.size + 1) scope.names cl, qual, func := none, code := env.code, frame := env.frame, builtins := env.builtins }
      { s with heap := pushCells (s.heap.push { cls := .type "dict", data := .dict #[] }) scope.names }) : wpAny M A (newFunctionEnv scope globals cl [] qual none .none (some env)) Q E s := by
  first | refine if_yes (by first | rfl | simp only [newFunctionEnv, Option.isSome_some]) ?_ | simp only [newFunctionEnv, Option.isSome_some, if_true]
  refine wpAny_bind (wpAny_alloc ?_)
  refine wpAny_bind (wpAny_layCells _ (fun name kind cells => by cases hkc : kind == NameKind.cell <;> simp [hkc]) _ _ _ _ ?_)
  rw [show ({ s with heap := s.heap.push { cls := .type "dict", data := .dict #[] } } : Shared).heap.objs.size = s.heap.objs.size + 1 from Heap.size_push ..]
  simp only [List.forIn_nil]
  exact wpAny_bind (wpAny_pure (wpAny_pure hQ))

theorem w_range {a b : Int} {t u : Tok} {Q : Value → Heap → Prop} (q : ∀ h' v, IsRange h' h.objs.size a b 1 t u v → Kept [] h h' → Q (.ref h.objs.size) h') : W prog w c A (call (.type "range") [.int a t, .int b u]) Q E h :=
  ⟨fun n => call_range_2 (s := c.st h n) ⟨_, _, rfl, q _ _ (IsRange.new ..) (Kept.push _ _)⟩⟩

/-- [elt for x in range(1, 5)], x a cell of the comprehension -/
theorem w_LC5 {elt iter : Expr} {x : Str} {px : Pos} {scope : Scope} {pos : Pos} {Q : Value → Heap → Prop} (cl : List (Str × Addr)) (hh : A.handled = none)
    (hclos : closureFor scope env = pure cl) (hcells : ∀ n, cellsFrom n scope.names cl = (x, n) :: cl) (hpush : ∀ h : Heap, pushCells h scope.names = h.push { cls := .type "cell", data := .cell none }) (hkind : scope.kind = .function)
    (hnames : ∀ y ∈ scope.names, y.2 = .local → scope.names.lookup y.1 = some .local) (hx : (relabel scope env).names.lookup x = some .cell)
    (y : W prog w c A (eval iter env) (fun xv h₁ => ∃ r t u v, ∃ G : Nat → Value → Heap → Prop, xv = .ref r ∧ IsRange h₁ r 1 5 1 t u v ∧
      (∀ i u h h' T, G i u h → Kept T h h' → (∀ a ∈ T, a < h₁.objs.size + 4) → G i u h') ∧
      (∀ (i : Nat) t h₂, i < 4 → h₂.IsCell (h₁.objs.size + 3) (some (.int (1 + (i : Int)) t)) → Kept [] h₁ h₂ → h₁.objs.size + 4 ≤ h₂.objs.size → W prog w c A (eval elt (compEnvC scope ((x, h₁.objs.size + 3) :: cl) (h₁.objs.size + 2) env)) (fun u h₃ => G i u h₃ ∧ Kept [] h₂ h₃) NoE h₂) ∧
      (∀ D h' u0 u1 u2 u3, PL h' D [u0, u1, u2, u3] → G 0 u0 h' → G 1 u1 h' → G 2 u2 h' → G 3 u3 h' → Kept [] h₁ h' → h₁.objs.size ≤ D → Q (.ref D) h')) E h)
    (hs : ∀ x, foldedSetIterable iter env x = pure x := by intro _; rfl) :
    W prog w c A (eval (.ListComp elt [⟨.Name x px, iter, [], 0⟩] scope pos) env) Q E h := by
  refine ⟨fun n₀ => ?_⟩
  rw [eval_ListComp]
  refine wpAny_comprehension_free (use := none) rfl hs hclos hkind hnames (y.go fun xv h₁ n₁ q => ?_)
  obtain ⟨r, t, u, v, G, rfl, hr, stab, turn, fin⟩ := q
  refine wpAny_pyIter_range (s := c.st h₁ n₁) hr (by decide) ?_
  refine wpAny_newObj_type (x_newEnvC ?_)
  dsimp only
  rw [hcells, hpush]
  simp only [Heap.size_push]
  generalize hN : h₁.objs.size = N at *
  have I0 : IsRangeIter (h₁.push { cls := .type "range_iterator", data := .fields #[rawInt 1, rawInt (Builtin.Range.rangeSize 1 5 1), rawInt 1] }) N 1 4 1 := by rw [← hN]; exact Heap.get?_push_size _ rfl
  generalize hH1 : h₁.push { cls := .type "range_iterator", data := .fields #[rawInt 1, rawInt (Builtin.Range.rangeSize 1 5 1), rawInt 1] } = H1 at *
  have s1 : H1.objs.size = N + 1 := by rw [← hH1, Heap.size_push, hN]
  generalize hH2 : H1.push { cls := .type "list", dict := none, data := .seq ([] : List Value).toArray } = H2 at *
  have s2 : H2.objs.size = N + 2 := by rw [← hH2, Heap.size_push, s1]
  generalize hH3 : H2.push { cls := .type "dict", data := .dict #[] } = H3 at *
  have s3 : H3.objs.size = N + 3 := by rw [← hH3, Heap.size_push, s2]
  generalize hH4 : H3.push { cls := .type "cell", data := .cell none } = H4 at *
  have s4 : H4.objs.size = N + 4 := by rw [← hH4, Heap.size_push, s3]
  have k1 : Kept [] h₁ H1 := hH1 ▸ Kept.push _ _
  have k2 : Kept [] H1 H2 := hH2 ▸ Kept.push _ _
  have k3 : Kept [] H2 H3 := hH3 ▸ Kept.push _ _
  have k4 : Kept [] H3 H4 := hH4 ▸ Kept.push _ _
  have kk : Kept [] h₁ H4 := ((k1.trans k2).trans k3).trans k4
  have pD : PL H4 (N + 1) [] := by
    refine ⟨0, (k3.trans k4).all _ _ ?_⟩
    rw [← hH2, ← s1]; exact Heap.get?_push_size _ rfl
  have ns : H4.Ns (N + 2) (fun _ => none) := by
    have := Heap.Ns.new H2 (.type "dict")
    rw [hH3, s2] at this
    exact this.keeps k4.all
  have ce : H4.IsCell (N + 3) none := by rw [← hH4, ← s3]; exact ⟨_, Heap.get?_push_size _ rfl, rfl⟩
  have Wk := Walks.range (prog := prog) (w := w) hh N 1 1 4
  have st0 : IsRangeIter H4 N (1 + ((0 : Nat) : Int) * 1) (((4 : Nat) : Int) - ((0 : Nat) : Int)) 1 := ((k2.trans k3).trans k4).all _ _ I0
  have n01 : N ≠ N + 1 := by omega
  have n02 : N ≠ N + 2 := by omega
  have n03 : N ≠ N + 3 := by omega
  have n12 : N + 1 ≠ N + 2 := by omega
  have n13 : N + 1 ≠ N + 3 := by omega
  have n23 : N + 2 ≠ N + 3 := by omega
  have rf : Kept [N, N + 1, N + 3] h₁ H4 := kk.nil
  have fS : ∀ {h'}, Kept [N, N + 1, N + 3] H4 h' → Kept [] h₁ h' := fun {h'} k => Kept.drop (S := []) (rf.trans k) (fun a ha => by
    simp only [List.mem_cons, List.not_mem_nil, or_false] at ha
    exact none_ge (by rw [hN]; rcases ha with rfl | rfl | rfl <;> omega))
  have sz : ∀ {h'}, Kept [N, N + 1, N + 3] H4 h' → (∃ v, h'.IsCell (N + 3) v) → N + 4 ≤ h'.objs.size := fun {h'} k ⟨v, o, e, _⟩ => Heap.lt_size e
  let cenv := compEnvC scope ((x, N + 3) :: cl) (N + 2) env
  have loop : ∀ n₃, codeAny (model prog w) A (.compLoop (.ListComp elt [⟨.Name x px, iter, [], 0⟩] scope pos) 0 (.ref N) (.ref (N + 1)) cenv)
      (compPost (model prog w) A (fun e s' => ∃ h' n', s' = c.st h' n' ∧ E e h') none (fun a s' => ∃ h' n', s' = c.st h' n' ∧ Q a h') (.ref (N + 1)) (N + 2)) (c.st H4 n₃) := by
    intro n₃
    refine codeAny_mono ((c_compLoop (c := c) (cenv := cenv) (iter := iter) (elt := elt) (x := x) (px := px) (ifs := []) (scope := scope) (pos := pos) (R := fun r h' => r = .ok .next ∧ (∃ m, h'.Ns (N + 2) m) ∧ ∀ h'', Kept [N + 2] h' h'' → Q (.ref (N + 1)) h'') Wk (by decide) (by simpa using n01.symm)
      (fun i ys h' => Kept [N, N + 1, N + 3] H4 h' ∧ (∃ v, h'.IsCell (N + 3) v) ∧ ys.length = i ∧ ∀ j u, ys[j]? = some u → G j u h')
      st0 ⟨Kept.refl _ _, ⟨_, ce⟩, rfl, fun j u e => by simp at e⟩ pD ?_ ?_ ?_).out n₃) fun r s' z => ?_
    · rintro i ys h' h'' ⟨a, ⟨v, b⟩, l, g⟩ k
      exact ⟨a.trans (k.mono (by simp)), ⟨v, cell_kept b k (by simp)⟩, l, fun j u e => stab _ _ _ _ _ (g j u e) k (by simp)⟩
    · rintro i ys v h' hi hyi ⟨tv, rfl⟩ ⟨a, ⟨v₀, b⟩, l, g⟩ pD'
      refine w_stc b (fun h₄ b₄ k₄ => ?_) (by show (relabel scope env).kind = _; exact hkind) hx (by show ((x, N + 3) :: cl).lookup x = _; simp [List.lookup_cons])
      have a4 := a.trans (k₄.mono (S' := [N, N + 1, N + 3]) (by simp))
      refine w_tests0 ?_
      first | refine if_yes (by rfl) ?_ | simp only [if_true]
      have e1 : (1 : Int) + (i : Int) * 1 = 1 + (i : Int) := by omega
      rw [e1] at b₄
      refine (turn i tv h₄ hi b₄ (fS a4) (sz a4 ⟨_, b₄⟩)).post fun u' h₅ ⟨gu, k₅⟩ => ⟨⟨a4.trans k₅.nil, ⟨_, cell_kept b₄ k₅ (by simp)⟩, by simp [l], fun j u e => ?_⟩, [N + 3], k₄.trans k₅.nil, by simpa using n13, fun b hb => by rw [List.mem_singleton.mp hb]; simpa using n03⟩
      by_cases q : j < ys.length
      · rw [List.getElem?_append_left q] at e
        exact stab _ _ _ _ _ (stab _ _ _ _ _ (g j u e) k₄ (by simp)) k₅ (by simp)
      · rw [List.getElem?_append_right (by omega)] at e
        have : j = i := by
          have := (List.getElem?_eq_some_iff.mp e).1
          simp at this; omega
        subst this
        rw [l, Nat.sub_self] at e
        simp at e; subst e; exact gu
    · rintro ys h' ⟨a, b, l, g⟩ pD'
      have ns' : h'.Ns (N + 2) (fun _ => none) := by
        obtain ⟨o, es, ep, e, r⟩ := ns
        exact ⟨o, es, ep, a _ _ e (by simp), r⟩
      refine ⟨rfl, ⟨_, ns'⟩, fun h'' k => ?_⟩
      have kf : Kept [] h₁ h'' := Kept.drop (S := []) ((fS a).nil.trans k) (fun a ha => by rw [List.mem_singleton.mp ha]; exact none_ge (by rw [hN]; omega))
      obtain ⟨u0, u1, u2, u3, rfl⟩ := length4 l
      have s : ∀ {j u}, G j u h' → G j u h'' := fun gg => stab _ _ _ _ _ gg k (by simp)
      exact fin _ h'' u0 u1 u2 u3 (pD'.kept k (by simpa using n12)) (s (g 0 u0 rfl)) (s (g 1 u1 rfl)) (s (g 2 u2 rfl)) (s (g 3 u3 rfl)) kf (by omega)
    · obtain ⟨h', n', rfl, rfl, ⟨m, hm⟩, q⟩ := z
      exact ⟨m, hm, fun h'' hs'' => ⟨h'', n', rfl, q h'' (Kept.of_sb hs'')⟩⟩
  exact codeAny_compStart_list (loop _) (Wk.self 0 _ _ _ st0 (loop _))
end
end Mine
end

section
open PySem PySem.W PyProof.Rows PySem.Calls PySem.SeqAt
namespace Mine
/-! what is laid out alike is equal -/
theorem paired_get {α β : Type} {F : α → β → Prop} : ∀ {l₁ : List α} {l₂ : List β}, Paired F l₁ l₂ → ∀ j (h1 : j < l₁.length) (h2 : j < l₂.length), F l₁[j] l₂[j]
  | _, _, .nil, j, h1, _ => absurd h1 (by simp)
  | _, _, .cons f t, 0, _, _ => f
  | _, _, .cons f t, j + 1, h1, h2 => paired_get t j (by simpa using h1) (by simpa using h2)
theorem paired_join {α β γ : Type} {F : α → γ → Prop} {G : β → γ → Prop} {H : α → β → Prop} (f : ∀ a b c, F a c → G b c → H a b) : ∀ {l₁ : List α} {l₂ : List β} {l : List γ}, Paired F l₁ l → Paired G l₂ l → Paired H l₁ l₂
  | _, _, _, .nil, .nil => .nil
  | _, _, _, .cons x t, .cons y u => .cons (f _ _ _ x y) (paired_join f t u)

theorem AnsV.kept {lo : Addr} {h h' : Heap} {V : Value} {a : Ans} {S : List Addr} (x : AnsV lo h V a) (k : Kept S h h') (hS : ∀ a ∈ S, a < lo) : AnsV lo h' V a := by
  cases a with
  | told a =>
    obtain ⟨b, t, v, rfl, hb, p, hv⟩ := x
    exact ⟨b, t, v, rfl, hb, p.kept k fun m => Nat.lt_irrefl _ (Nat.lt_of_lt_of_le (hS b m) hb), hv⟩
  | mis why =>
    obtain ⟨b, t, v, rfl, hb, p⟩ := x
    exact ⟨b, t, v, rfl, hb, p.kept k fun m => Nat.lt_irrefl _ (Nat.lt_of_lt_of_le (hS b m) hb)⟩
theorem PlainV.kept {lo : Addr} {h h' : Heap} {V : Value} {g : Int} {p1 p2 p3 p4 : List (Int × Int)} {S : List Addr} (x : PlainV lo h V g p1 p2 p3 p4) (k : Kept S h h') (hS : ∀ a ∈ S, a < lo) : PlainV lo h' V g p1 p2 p3 p4 := by
  obtain ⟨a, t, v1, v2, v3, v4, rfl, hb, p, r1, r2, r3, r4⟩ := x
  exact ⟨a, t, v1, v2, v3, v4, rfl, hb, p.kept k fun m => Nat.lt_irrefl _ (Nat.lt_of_lt_of_le (hS a m) hb), r1.kept k hS, r2.kept k hS, r3.kept k hS, r4.kept k hS⟩

section
variable {A : Around} {s : Shared}
theorem eq_tuple {a b : Addr} {vs us : List Value} (p : PT s.heap a vs) (p' : PT s.heap b us) (hu : A.units < cLine) (d : Paired (fun v u => EqAt A.in1 s v u true) vs us) : EqAt A s (.ref a) (.ref b) true := by
  by_cases e : a = b
  · subst e; exact EqAt.same _
  · have len := Paired.length d
    have at_ : ∀ j (h1 : j < vs.toArray.size) (h2 : j < us.toArray.size), EqAt A.in1 s vs.toArray[j] us.toArray[j] true := fun j h1 h2 => by
      have h1' : j < vs.length := by simpa using h1
      have h2' : j < us.length := by simpa using h2
      simpa using paired_get d j h1' h2'
    have := RcAt.tuples (A := A) (s := s) (e := fun _ => true) p.isTuple p'.isTuple hu at_
    refine EqAt.of_refs e ?_
    rw [show ((List.range (min vs.toArray.size us.toArray.size)).all (fun _ => true) && vs.toArray.size == us.toArray.size) = true from by simp [len]] at this
    exact this
theorem ne_tuple {a b : Addr} {vs us : List Value} (p : PT s.heap a vs) (p' : PT s.heap b us) (hu : A.units < cLine) (d : Paired (fun v u => EqAt A.in1 s v u true) vs us) : RcNeAt A s (.ref a) (.ref b) false := by
  have len := Paired.length d
  have at_ : ∀ j (h1 : j < vs.toArray.size) (h2 : j < us.toArray.size), EqAt A.in1 s vs.toArray[j] us.toArray[j] true := fun j h1 h2 => by
    have h1' : j < vs.length := by simpa using h1
    have h2' : j < us.length := by simpa using h2
    simpa using paired_get d j h1' h2'
  have := RcNeAt.tuples (A := A) (s := s) (e := fun _ => true) p.isTuple p'.isTuple hu at_
  rwa [show (!((List.range (min vs.toArray.size us.toArray.size)).all (fun _ => true) && vs.toArray.size == us.toArray.size)) = false from by simp [len]] at this
theorem eq_int {i : Int} {t u : Tok} : EqAt A s (.int i t) (.int i u) true := by
  have := EqAt.int_int (A := A) (s := s) i t i u
  rwa [beq_self_eq_true] at this
theorem eq_str {x : Str} {t u : Tok} : EqAt A s (.str x t) (.str x u) true := by
  have := EqAt.str_str (A := A) (s := s) x t x u
  rwa [beq_self_eq_true] at this
theorem eq_aval {v u : Value} {a : AV} (x : AVal v a) (y : AVal u a) : EqAt A s v u true := by
  cases a with
  | none => cases x; cases y; exact EqAt.same _
  | int i => obtain ⟨t, rfl⟩ := x; obtain ⟨u, rfl⟩ := y; exact eq_int
  | bool b => cases x; cases y; exact EqAt.same _
theorem ne_ans {lo lo' : Addr} {V U : Value} {a : Ans} (hu : A.units < cLine) (x : AnsV lo s.heap V a) (y : AnsV lo' s.heap U a) : RcNeAt A s V U false := by
  cases a with
  | told a =>
    obtain ⟨b, t, v, rfl, _, p, hv⟩ := x
    obtain ⟨b', t', v', rfl, _, p', hv'⟩ := y
    exact ne_tuple p p' hu (.cons eq_str (.cons (eq_aval hv hv') .nil))
  | mis why =>
    obtain ⟨b, t, v, rfl, _, p⟩ := x
    obtain ⟨b', t', v', rfl, _, p'⟩ := y
    exact ne_tuple p p' hu (.cons eq_str (.cons eq_str .nil))
theorem eq_pair {lo lo' : Addr} {v u : Value} {p : Int × Int} (hu : A.units < cLine) (x : PairV lo s.heap v p) (y : PairV lo' s.heap u p) : EqAt A s v u true := by
  obtain ⟨b, t1, t2, rfl, _, q⟩ := x
  obtain ⟨b', u1, u2, rfl, _, q'⟩ := y
  exact eq_tuple q q' hu (.cons eq_int (.cons eq_int .nil))
theorem eq_row {lo lo' : Addr} {v u : Value} {l : List (Int × Int)} (hu : A.units + 1 < cLine) (x : RowV lo s.heap v l) (y : RowV lo' s.heap u l) : EqAt A s v u true := by
  obtain ⟨a, vs, rfl, _, p, d⟩ := x
  obtain ⟨b, us, rfl, _, p', d'⟩ := y
  exact eq_tuple p p' (by omega) (paired_join (F := PairV lo s.heap) (G := PairV lo' s.heap) (H := fun v u => EqAt A.in1 s v u true) (fun _ _ _ x y => eq_pair (A := A.in1) (s := s) hu x y) d d')
theorem ne_plain {lo lo' : Addr} {V U : Value} {g : Int} {p1 p2 p3 p4 : List (Int × Int)} (hu : A.units + 2 < cLine) (x : PlainV lo s.heap V g p1 p2 p3 p4) (y : PlainV lo' s.heap U g p1 p2 p3 p4) : RcNeAt A s V U false := by
  obtain ⟨a, t, v1, v2, v3, v4, rfl, _, p, r1, r2, r3, r4⟩ := x
  obtain ⟨b, u, w1, w2, w3, w4, rfl, _, p', q1, q2, q3, q4⟩ := y
  have hu' : A.in1.units + 1 < cLine := hu
  exact ne_tuple p p' (by omega) (.cons eq_int (.cons (eq_row hu' r1 q1) (.cons (eq_row hu' r2 q2) (.cons (eq_row hu' r3 q3) (.cons (eq_row hu' r4 q4) .nil)))))
theorem ne_list {a b : Addr} {vs us : List Value} (p : s.heap.IsList a vs.toArray) (p' : s.heap.IsList b us.toArray) (hu : A.units < cLine) (d : Paired (fun v u => EqAt A.in1 s v u true) vs us) : RcNeAt A s (.ref a) (.ref b) false := by
  have len := Paired.length d
  have at_ : ∀ j (h1 : j < vs.toArray.size) (h2 : j < us.toArray.size), EqAt A.in1 s vs.toArray[j] us.toArray[j] true := fun j h1 h2 => by
    have h1' : j < vs.length := by simpa using h1
    have h2' : j < us.length := by simpa using h2
    simpa using paired_get d j h1' h2'
  have := RcNeAt.lists (A := A) (s := s) (e := fun _ => true) p p' (by simpa using len) hu at_
  rwa [show (!(List.range vs.toArray.size).all (fun _ => true)) = false from by simp] at this
theorem ne_cn {a b : Addr} {n : Cn} {t u : Nat → Tok} (p : s.heap.IsList a (cnV n t).toArray) (p' : s.heap.IsList b (cnV n u).toArray) (hu : A.units < cLine) : RcNeAt A s (.ref a) (.ref b) false :=
  ne_list p p' hu (.cons eq_int (.cons eq_int (.cons eq_int (.cons eq_int (.cons eq_int (.cons eq_int .nil))))))
end
end Mine
end

section
open PySem PySem.W PyProof.Rows PySem.Calls PySem.SeqAt
namespace Mine
section
variable {prog : Program} {w : World} {c : Cx} {A : Around} {base h : Heap}
/-- a def whose one cell is a name of its own -/
theorem cfC0 {R : Result → Heap → Prop} {name qual : Str} {params : Arguments} {body : List Stmt} {scope : Scope} {dV kV doc pm cdv ct oc : Value} {an od : Option Addr} {osl : Array (Option Value)} {f : Addr} {vals : List Value} {n : Nat}
    (binds : List (Str × Value)) (x : Str) (B : Base w base) (kp : In0 base h) (room : Room A n)
    (ho : (KF w.params).lookup f = some ⟨oc, od, .func (fnOf name qual params body scope dV kV doc pm an cdv ct), osl⟩) (hcd : codeIn (KF w.params) cdv qual = true)
    (hbind : bindArgs (fnOf name qual params body scope dV kV doc pm an cdv ct) ⟨vals, []⟩ = pure binds)
    (hcl : ∀ n, cellsFrom n scope.names [] = [(x, n)])
    (hkind : (binds.all fun y => scope.names.lookup y.1 == some .local) = true)
    (hv : bindC (envOfC qual scope h.objs.size f cdv).kindOf binds (fun _ => none) x = none)
    (q : ∀ h₁, Fr base h.objs.size h₁ (bindL (envOfC qual scope h.objs.size f cdv).kindOf binds fun _ => none) → h₁.IsCell (h.objs.size + 1) none → Kept [] h h₁ →
      W prog w c (A.deeper (envOfC qual scope h.objs.size f cdv)) (execs body (envOfC qual scope h.objs.size f cdv)) (fun fl h' => R (.ok (.ret (match fl with | .ret v => v | _ => .none))) h') (fun _ _ => False) h₁)
    (hco : scope.isCoroutine = false := by rfl) (hgen : scope.isGenerator = false := by rfl) (hk : scope.kind = .function := by rfl) : C prog w c A (.call (.ref f) ⟨vals, []⟩) R h :=
  ⟨fun n => codeAny_call_cells (s := c.st h n) (fd := fnOf name qual params body scope dV kV doc pm an cdv ct) room.lt (kp _ _ (B.X _ _ ho)) rfl (B.lim.keeps kp) (codeRec_of (B.In kp) hcd) rfl hbind rfl
    (fun y hy => .inl (beq_iff_eq.mp (List.all_eq_true.mp hkind y hy)))
    (fun s₁ I => by
      obtain ⟨h₁, tk, e⟩ := I.toInCall.same; subst e
      refine wpAny_mono ((q h₁ ⟨I.toInCall.ns, fun b o e => I.toInCall.keep b o (kp b o e), B.ge kp⟩ ?_ (Kept.of_all I.toInCall.keep)).out _) (fun _ _ y => y) fun _ _ ⟨_, _, _, y⟩ => y.elim
      have := I.cell x (h.objs.size + 1) (by show (cellsFrom (h.objs.size + 1) scope.names []).lookup x = _; rw [hcl]; simp)
      rwa [show (bindC (callEnvC (fnOf name qual params body scope dV kV doc pm an cdv ct) h.objs.size f).kindOf binds (fun _ => none) x) = none from hv] at this) hco hgen hk⟩

theorem FF_consC {outer : List Env} {qual : Str} {scope : Scope} {L f : Addr} {cdv : Value} {m : Str → Option Value} (B : Base w base) (F : Fr base L h m) (ff : h.FunFrames base outer) (hk : scope.kind = .function := by rfl) : h.FunFrames base (envOfC qual scope L f cdv :: outer) := by
  obtain ⟨⟨o, eo, ep, hL, hdL, _⟩, _, ab⟩ := F
  exact ⟨by show scope.kind ≠ .module; rw [hk]; decide, ⟨L, o, rfl, B.none (by rw [← B.size]; exact ab), hL, fun vs q => by rw [hdL] at q; cases q⟩, ff⟩

theorem paired_flip {α β γ : Type} {F : α → β → Prop} {G : β → γ → Prop} {f : α → γ} (hf : ∀ a b, F a b → G b (f a)) : ∀ {l₁ : List α} {l₂ : List β}, Paired F l₁ l₂ → Paired G l₂ (l₁.map f)
  | _, _, .nil => .nil
  | _, _, .cons x t => .cons (hf _ _ x) (paired_flip hf t)
theorem plain_sub (zs : List (Addr × LR)) (j : Int) : plainOf (sub j (zs.map (·.2))) = (zs.filter fun z => z.2.s == j).map fun z => (z.2.k, z.2.z) := by
  unfold plainOf sub ofS
  rw [← zf_filter (fun r => r.s == j), List.map_map, List.map_map]
  rfl

/-- ints of a list -/
abbrev Ints (vs : List Value) : Prop := ∀ v ∈ vs, ∃ i t, v = Value.int i t

theorem c_law {R : Result → Heap → Prop} {a : Addr} {vs : List Value} (B : Base w base) (kp : In0 base h) (room : Room A 8) (hfr : A.frames = some []) (p : h.IsList a vs.toArray) (hv : Ints vs) (hl : vs.length ≤ 63)
    (q : ∀ h', Kept [] h h' → R (.ok (.ret (.bool true))) h') : C prog w c A (.call (.ref 349) ⟨[.ref a], []⟩) R h := by
  refine cfC0 [("script", .ref a)] "rows" B kp room (by k_is) (by k_is) rfl (fun _ => rfl) rfl rfl (fun h₁ F cell k₁ => ?_)
  have hge : h.objs.size ≤ h₁.objs.size := by obtain ⟨o, _, _, e, _⟩ := F.ns; exact Nat.le_of_lt (Heap.lt_size e)
  -- script = script[:63]
  refine w_cons (w_AssignName (w_slice (w_ld F rfl (w_part0 (w_part (w_int fun t => ⟨a, vs, _, _, rfl, ?_, by omega, .none, .int _ _, fun h₂ D k₂ p₂ hD => ?_⟩))))))
  · obtain ⟨o, e, r⟩ := p; exact ⟨o, k₁.all _ _ e, r⟩
  rw [show (63 : Int) = ((63 : Nat) : Int) from rfl, slicePick_upto' vs.toArray 63] at p₂
  simp only [List.take_of_length_le hl] at p₂
  have F₂ := fk0 F k₂
  refine w_st F₂ fun h₃ F₃ k₃ => ?_
  have hCL : h.objs.size + 1 ≠ h.objs.size := Nat.succ_ne_self _
  have cell₃ := cell_kept (cell_kept cell k₂ (by simp)) k₃ (by simp)
  have hDL : D ≠ h.objs.size := Nat.ne_of_gt (Nat.lt_of_lt_of_le (by obtain ⟨o, _, _, e, _⟩ := F.ns; exact Heap.lt_size e) hD)
  have p₃ := p₂.kept k₃ (by simpa using hDL)
  have hu : ∀ env, (A.deeper env).units < cLine := fun env => (room.deeper (m := 0)).u
  -- most = 1 + (script[0] if script != [] else 5) % 12
  refine w_cons (w_AssignName (w_BinOp (w_int fun t1 => w_BinOp (W.post (Q := fun v h' => (∃ i t, v = .int i t) ∧ Kept [] h₃ h') (w_IfExp (w_tCmp (w_ld F₃ rfl (w_List (w_items0 ⟨by simp, fun h₄ p₄ k₄ => w_neNil (p₃.kept k₄ (by simp)) p₄ (hu _) (w_truthy ?_)⟩))))) ?_))))
  · cases vs with
    | nil =>
      first | refine if_no (by first | rfl | simp only [List.isEmpty_nil, Bool.not_true]) ?_ | simp only [List.isEmpty_nil, Bool.not_true, Bool.false_eq_true, if_false]
      exact w_int fun t => ⟨⟨_, _, rfl⟩, k₄⟩
    | cons v r =>
      first | refine if_yes (by first | rfl | simp only [List.isEmpty_cons, Bool.not_false]) ?_ | simp only [List.isEmpty_cons, Bool.not_false, if_true]
      exact w_Sub (w_ld (fk0 F₃ k₄) rfl (w_int fun t => w_litem (j := 0) (p₃.kept k₄ (by simp)) rfl (by simp at hl ⊢; omega) rfl ⟨hv v (by simp), k₄⟩))
  rintro v h₅ ⟨⟨i, t, rfl⟩, k₅⟩
  refine w_int fun t => w_mod (by decide) fun t => w_add fun tm => ?_
  have F₅ := fk0 F₃ k₅
  have p₅ := p₃.kept k₅ (by simp)
  have cell₅ := cell_kept cell₃ k₅ (by simp)
  refine w_st F₅ fun h₆ F₆ k₆ => ?_
  have p₆ := p₅.kept k₆ (by simpa using hDL)
  have cell₆ := cell_kept cell₅ k₆ (by simp)
  have hm : 1 ≤ 1 + i % 12 ∧ 1 + i % 12 ≤ 12 := by omega
  generalize hmm : 1 + i % 12 = most at *
  -- cache = Cache(most)
  refine w_cons (w_AssignName (w_fcall B F₆.keep (by k_is) (by k_is) (w_items (w_ld F₆ rfl (w_items0 ⟨F₆.keep, c_ca_new B F₆.keep room.deeper hm.1 fun h₇ κ k₇ x₇ hκ => ?_⟩)))))
  have F₇ := fk0 F₆ k₇
  have hL6 : h.objs.size < h₆.objs.size := by obtain ⟨o, _, _, e, _⟩ := F₆.ns; exact Heap.lt_size e
  have hLκ : h.objs.size ∉ κ.all := fun m => absurd hL6 (Nat.not_lt.mpr (hκ _ m))
  refine w_st F₇ fun h₈ F₈ k₈ => ?_
  have x₈ := x₇.kept k₈ (notL hLκ)
  have p₈ := (p₆.kept k₇ (by simp)).kept k₈ (by simpa using hDL)
  have cell₈ := cell_kept (cell_kept cell₆ k₇ (by simp)) k₈ (by simp)
  -- rows, state = ([], {..})
  refine w_cons (w_AssignTuple (w_Tuple (w_items (w_List (w_items0 ⟨by simp, fun h₉ p₉ k₉ => ?_⟩)))))
  refine w_items (w_DictS fun h₁₀ k₁₀ z₁₀ => ?_)
  have F₁₀ := fk0 (fk0 F₈ k₉) k₁₀
  refine w_pairs (w_str fun s1 => w_stood (w_ld F₁₀ rfl (w_pairs (w_str fun s2 => w_stood (w_int fun tg => w_pairs (w_str fun s3 => w_stood (w_dict0 fun h₁₁ d₁₁ k₁₁ => w_pairs (w_str fun s4 => w_stood (w_BinOp (w_List (w_items (w_int fun t0 => w_items0 ⟨by simp, fun h₁₂ p₁₂ k₁₂ => w_int fun t => w_lmul p₁₂ (by simp) (by decide) (by simp) fun h₁₃ k₁₃ p₁₃ => w_pairs0 ⟨((k₁₁.trans k₁₂).trans k₁₃), [("most", .int most tm), ("goal", .int 0 tg), ("held", .ref h₁₀.objs.size), ("counts", .ref h₁₂.objs.size)], ?_, by show ([("most" : Str), "goal", "held", "counts"] : List Str).Nodup; decide, fun h₁₄ d₁₄ k₁₄ => w_items0 ⟨by simp, fun h₁₅ p₁₅ k₁₅ => ?_⟩⟩⟩))))))))))))
  · exact ⟨strKind_is prog w _ _, rfl, strKind_is prog w _ _, rfl, strKind_is prog w _ _, rfl, strKind_is prog w _ _, rfl, trivial⟩
  have z8 : h₈.objs.size < h₉.objs.size := p₉.lt
  have z9 : h₉.objs.size < h₁₀.objs.size := z₁₀
  have z10 : h₁₀.objs.size < h₁₁.objs.size := d₁₁.lt
  have z11 : h₁₁.objs.size < h₁₂.objs.size := p₁₂.lt
  have z12 : h₁₂.objs.size < h₁₃.objs.size := p₁₃.lt
  have D8 : @LT.lt Nat _ D h₈.objs.size := p₈.lt
  have κ8 : ∀ a : Nat, a ∈ κ.all → a < h₈.objs.size := x₈.lt
  have hL8 : h.objs.size < h₈.objs.size := by obtain ⟨o, _, _, e, _⟩ := F₈.ns; exact Heap.lt_size e
  have hC8 : h.objs.size + 1 < h₈.objs.size := cell_lt cell₈
  have k13 : Kept [] h₈ h₁₃ := ((((k₉.trans k₁₀).trans k₁₁).trans k₁₂).trans k₁₃)
  generalize hrl : h₈.objs.size = rl at *
  generalize hsd : h₉.objs.size = sd at *
  generalize hha : h₁₀.objs.size = ha at *
  generalize hca : h₁₂.objs.size = ca at *
  have hLsd : h.objs.size ≠ sd := by omega
  have hrs : rl ≠ sd := Nat.ne_of_lt z8
  have hLlo : 350 ≤ h.objs.size := by have := F.above; rw [B.size] at this; exact this
  have hsdlo : 350 ≤ sd := by omega
  have hCsd : h.objs.size + 1 ≠ sd := by omega
  have hDsd : D ≠ sd := Nat.ne_of_lt (Nat.lt_trans D8 z8)
  have F₁₄ := fk B (fk0 F₈ k13) k₁₄ (by simpa using hLsd) (by simpa using hsdlo)
  have x₁₄ := (x₈.kept0 k13).kept k₁₄ (fun a ha m => by rw [List.mem_singleton.mp m] at ha; have := κ8 _ ha; omega)
  have cell₁₄ := cell_kept (cell_kept cell₈ k13 (by simp)) k₁₄ (by simpa using hCsd)
  have p₁₄ := (p₈.kept k13 (by simp)).kept k₁₄ (by simpa using hDsd)
  refine w_unpack2 room.hand p₁₅ fun h₁₆ k₁₆ => w_stc (cell_kept (cell_kept cell₁₄ k₁₅ (by simp)) k₁₆ (by simp)) fun h₁₇ cell₁₇ k₁₇ => ?_
  have hCL' : h.objs.size ∉ [h.objs.size + 1] := by simp
  have hClo : ∀ a ∈ [h.objs.size + 1], 350 ≤ a := by simp; omega
  have F₁₇ := fk B (fk0 (fk0 F₁₄ k₁₅) k₁₆) k₁₇ hCL' hClo
  have hCκ : h.objs.size + 1 ∉ κ.all := fun m => by have e := hκ _ m; have c6 : h.objs.size + 1 < h₆.objs.size := cell_lt cell₆; exact absurd c6 (Nat.not_lt.mpr e)
  have x₁₇ := ((x₁₄.kept0 k₁₅).kept0 k₁₆).kept k₁₇ (fun a ha m => hCκ (by rw [List.mem_singleton.mp m] at ha; exact ha))
  have hDC : D ≠ h.objs.size + 1 := Nat.ne_of_gt (Nat.lt_of_lt_of_le (cell_lt cell) hD)
  have p₁₇ := ((p₁₄.kept k₁₅ (by simp)).kept k₁₆ (by simp)).kept k₁₇ (by simpa using hDC)
  refine w_st F₁₇ fun h₁₈ F₁₈ k₁₈ => ?_
  have x₁₈ := x₁₇.kept k₁₈ (notL hLκ)
  have p₁₈ := p₁₇.kept k₁₈ (by simpa using hDL)
  have cell₁₈ := cell_kept cell₁₇ k₁₈ (by simp)
  have hRL : rl ≠ h.objs.size := by omega
  have hRC : rl ≠ h.objs.size + 1 := by omega
  have hSC : sd ≠ h.objs.size + 1 := by omega
  have hHL : ha ≠ h.objs.size := by omega
  have hHC : ha ≠ h.objs.size + 1 := by omega
  have hAL : ca ≠ h.objs.size := by omega
  have hAC : ca ≠ h.objs.size + 1 := by omega
  have hRS : rl ≠ sd := by omega
  have hHS : ha ≠ sd := by omega
  have hAS : ca ≠ sd := by omega
  let l : LA := ⟨rl, sd, ha, ca⟩
  let τ0 : LSt := ⟨most, 0, [], [], ⟨0, 0, 0, 0, 0, 0⟩⟩
  have g0 : LGood τ0 := ⟨List.nodup_nil, (fun r hr => nomatch hr), List.nodup_nil, (fun r hr => nomatch hr), hm, by show (0 : Int) ≤ 0 ∧ (0 : Int) ≤ 12; decide⟩
  have law₁₈ : ∀ X, LawAt prog w h₁₈ l X τ0 := fun X => by
    have up : ∀ {a : Nat}, a ≠ h.objs.size → a ≠ h.objs.size + 1 → ∀ {o}, h₁₄.get? a = some o → h₁₈.get? a = some o := fun {a} n1 n2 {o} e => k₁₈ _ _ (k₁₇ _ _ (k₁₆.all _ _ (k₁₅.all _ _ e)) (by simpa using n2)) (by simpa using n1)
    have e1 : rl ≠ sd ∧ rl ≠ ha ∧ rl ≠ ca := by omega
    have e2 : sd ≠ ha ∧ sd ≠ ca := by omega
    have e3 : ha ≠ ca := by omega
    have e4 : 350 ≤ rl ∧ 350 ≤ sd ∧ 350 ≤ ha ∧ 350 ≤ ca := by omega
    refine ⟨by simp [l, LA.all]; exact ⟨e1, e2, e3⟩, by simp [l, LA.all]; exact e4, ⟨[], rfl, List.nodup_nil, ?_, fun z hz => (nomatch hz), fun z hz => (nomatch hz)⟩, ⟨tm, tg, ?_⟩, ⟨by show 350 ≤ ha; omega, [], rfl, ?_⟩, ?_⟩
    · obtain ⟨n, e⟩ := ((((p₉.kept k₁₀ (by simp)).kept k₁₁ (by simp)).kept k₁₂ (by simp)).kept k₁₃ (by simp)).kept k₁₄ (by simpa using hRS)
      exact ⟨n, up hRL hRC e⟩
    · obtain ⟨o, es, ep, e, r⟩ := d₁₄
      exact ⟨o, es, ep, up (Ne.symm hLsd) hSC e, r⟩
    · have d := ((d₁₁.kept k₁₂ (by simp)).kept k₁₃ (by simp)).kept k₁₄ (by simpa using hHS)
      obtain ⟨o, es, ep, e, r⟩ := d
      exact ⟨o, es, ep, up hHL hHC e, r⟩
    · obtain ⟨n, e⟩ := p₁₃.kept k₁₄ (by simpa using hAS)
      exact ⟨fun _ => t0, _, up hAL hAC e, rfl, n, rfl⟩
  have e0 : abs τ0 = σ0 most := rfl
  rw [← e0] at x₁₈
  have k018 : Kept [] h h₁₈ := by
    have z : ∀ {a : Nat}, h.objs.size ≤ a → h.get? a = none := fun hh => none_ge hh
    refine Kept.drop (S := []) (T := [h.objs.size, h.objs.size + 1, sd]) ?_ ?_
    · exact ((((((((((((k₁.nil.trans k₂.nil).trans (k₃.mono (by simp))).trans k₅.nil).trans (k₆.mono (by simp))).trans k₇.nil).trans (k₈.mono (by simp))).trans k13.nil).trans (k₁₄.mono (by simp))).trans k₁₅.nil).trans k₁₆.nil).trans (k₁₇.mono (by simp))).trans (k₁₈.mono (by simp)))
    · intro a ha
      simp only [List.mem_cons, List.not_mem_nil, or_false] at ha
      rcases ha with rfl | rfl | rfl
      · exact z (Nat.le_refl _)
      · exact z (Nat.le_succ _)
      · exact z (by omega)
  -- for turn, x in enumerate(..)
  refine w_cons (w_ForE room.hand (w_tcall B F₁₈.keep (by k_is) (by boot_by_name) (by decide) (w_items (W.post (Q := fun v h' => ∃ D' us, v = .ref D' ∧ PL h' D' us ∧ Ints us ∧ us.length ≤ 100 ∧ Kept [] h₁₈ h' ∧ h₁₈.objs.size ≤ D') (w_IfExp (w_tCmp (w_bcall B F₁₈.keep (by k_is) (by boot_by_name) (by decide) (w_items (w_ld F₁₈ rfl (w_items0 (w_lenL p₁₈ (by omega) fun t => w_int fun u => w_gt (w_truthy ?_)))))))) ?_))))
  · cases decide ((vs.length : Int) > 1) with
    | true =>
      first | refine if_yes (by rfl) ?_ | simp only [if_true]
      refine w_slice (w_ld F₁₈ rfl (w_part (w_int fun t => w_part (w_int fun t => ⟨D, vs, _, _, rfl, p₁₈.isList, by omega, .int _ _, .int _ _, fun h₂ D' k₂ p₂ hD => ⟨D', _, rfl, p₂, ?_, ?_, k₂, hD⟩⟩))))
      · intro v hv'
        rw [slicePick_plain] at hv'
        exact hv v (by simpa using List.mem_of_mem_drop (List.mem_of_mem_take hv'))
      · exact Nat.le_trans (by rw [Array.length_toList]; exact slicePick_size_le _ _ _ _) (by rw [List.size_toArray]; omega)
    | false =>
      first | refine if_no (by rfl) ?_ | simp only [Bool.false_eq_true, if_false]
      refine w_List (w_items (w_int fun t1 => w_items (w_int fun t2 => w_items (w_int fun t3 => w_items (w_int fun t4 => w_items (w_int fun t5 => w_items (w_int fun t6 => w_items0 ⟨by simp, fun h' p' k' => ⟨_, _, rfl, p', ?_, by simp, k', Nat.le_refl _⟩⟩)))))))
      intro v hv
      simp only [List.mem_cons, List.not_mem_nil, or_false] at hv
      rcases hv with rfl | rfl | rfl | rfl | rfl | rfl <;> exact ⟨_, _, rfl⟩
  rintro _ h₁₉ ⟨D', us, rfl, p₁₉, hus, hul, k₁₉, hD'⟩
  refine w_items0 (w_enum p₁₉ fun h₂₀ e₂₀ i₂₀ z₂₀ k₂₀ => w_iterE e₂₀ ?_)
  have hLκ' : h.objs.size ∉ κ.all := hLκ
  have hCs : h.objs.size + 1 < h₁₈.objs.size := cell_lt cell₁₈
  have hκ18 : ∀ a : Nat, a ∈ κ.all → a < h₁₈.objs.size := x₁₈.lt
  have hl18 : ∀ a : Nat, a ∈ l.all → a < h₁₈.objs.size := (law₁₈ []).lt
  have hD19 : @LT.lt Nat _ D' h₁₉.objs.size := p₁₉.lt
  have hD18 : @LE.le Nat _ h₁₈.objs.size D' := hD'
  have hlκ : ∀ a : Nat, a ∈ l.all → a ∉ κ.all := fun a ha hk => by
    have : a < rl := κ8 a hk
    simp only [l, LA.all, List.mem_cons, List.not_mem_nil, or_false] at ha
    omega
  have hlL : ∀ a : Nat, a ∈ l.all → a ≠ h.objs.size ∧ a ≠ h.objs.size + 1 := fun a ha => by
    simp only [l, LA.all, List.mem_cons, List.not_mem_nil, or_false] at ha
    omega
  generalize hit : h₁₉.objs.size = itr at *
  generalize hee : itr + 1 = e at *
  have heI : e ≠ itr := by omega
  have hDe : D' ≠ e := Nat.ne_of_lt (show @LT.lt Nat _ D' e by omega)
  have hDi : D' ≠ itr := Nat.ne_of_lt hD19
  have h18i : h₁₈.objs.size < itr := by omega
  have hL18 : h.objs.size < h₁₈.objs.size := by omega
  have he2 : ∀ a : Nat, a ∈ [e, itr] → h₁₈.objs.size < a := fun a ha => by
    simp only [List.mem_cons, List.not_mem_nil, or_false] at ha
    omega
  let X : List Addr := h.objs.size :: (h.objs.size + 1) :: e :: itr :: D' :: κ.all
  have hXe : ∀ a : Nat, a ∈ X → a ≤ e := fun a ha => by
    simp only [X, List.mem_cons] at ha
    rcases ha with rfl | rfl | rfl | rfl | rfl | ha
    · omega
    · omega
    · omega
    · omega
    · omega
    · have := hκ18 a ha; omega
  let Inv : Nat → Heap → Prop := fun i hh => ∃ τ m, Fr base h.objs.size hh m ∧ m "cache" = some (.ref κ.x) ∧ m "state" = some (.ref sd) ∧ hh.IsCell (h.objs.size + 1) (some (.ref rl)) ∧ CacheAt prog w hh κ (abs τ) ∧ LawAt prog w hh l X τ ∧ LGood τ ∧ Kept [] h hh
  refine ⟨e, itr, D', us, Inv, rfl, heI, hDe, hDi, e₂₀, i₂₀, p₁₉.kept k₂₀ (by simp), ?_, ?_, ?_, ?_⟩
  · have kk := k₁₉.trans k₂₀
    exact ⟨τ0, _, fk0 F₁₈ kk, rfl, rfl, cell_kept cell₁₈ kk (by simp), x₁₈.kept0 kk, (law₁₈ X).kept0 kk, g0, k018.trans kk⟩
  · rintro i hh hh' ⟨τ, m, F', m1, m2, c', x', l', g', k'⟩ k
    have n1 : h.objs.size ∉ [e, itr] := by simp; omega
    have n2 : h.objs.size + 1 ∉ [e, itr] := by simp; omega
    have n3 : ∀ a ∈ [e, itr], 350 ≤ a := by simp; omega
    refine ⟨τ, m, fk B F' k n1 n3, m1, m2, cell_kept c' k n2, x'.kept k fun a ha q => ?_, l'.kept k fun a ha => ⟨fun q => ?_, ?_⟩, g', Kept.drop (S := []) (T := [e, itr]) (k'.nil.trans k) fun a ha => none_ge ?_⟩
    · exact Nat.lt_irrefl _ (Nat.lt_trans (hκ18 a ha) (he2 a q))
    · exact Nat.lt_irrefl _ (Nat.lt_trans (hl18 a q) (he2 a ha))
    · simp only [List.mem_cons, List.not_mem_nil, or_false] at ha
      rcases ha with rfl | rfl <;> simp [X]
    · exact Nat.le_of_lt (Nat.lt_trans hL18 (he2 a ha))
  · rintro i v t hh hv' hes ⟨τ, m, F', m1, m2, c', x', l', g', k'⟩
    obtain ⟨xi, xt, rfl⟩ := hus v (List.mem_of_getElem? hv')
    have lS : ∀ a ∈ [h.objs.size], a ∉ l.all ∧ a ∈ X := fun a ha => by
      rw [List.mem_singleton.mp ha]
      exact ⟨fun q => (hlL _ q).1 rfl, by simp [X]⟩
    have hcC : h.objs.size + 1 ∉ [h.objs.size] := by simp
    refine w_st F' fun j₁ G₁ q₁ => w_st G₁ fun j₂ G₂ q₂ => ?_
    have q12 := q₁.trans q₂
    have x₂' := x'.kept q12 (notL hLκ)
    have l₂' := l'.kept q12 lS
    have c₂' := cell_kept c' q12 hcC
    -- what, key, far = ..
    refine w_cons (w_swap3 room.hand (w_Tuple (w_items (w_BinOp (w_ld G₂ rfl (w_int fun t => w_mod (by decide) fun tw => w_items (w_BinOp (w_BinOp (w_ld G₂ rfl (w_int fun t => w_div (by decide) (by decide) fun t => w_int fun t => w_mod (by decide) fun tk => w_items (w_BinOp (w_BinOp (w_ld G₂ rfl (w_int fun t => w_div (by decide) (by decide) fun t => w_ld G₂ rfl (w_add fun tf => w_items0 ⟨by simp, fun j₃ p₃' q₃ => ⟨_, _, _, _, rfl, p₃', fun j₄ q₄ => ?_⟩⟩)))))))))))))))
    refine w_st (fk0 (fk0 G₂ q₃) q₄) fun j₅ G₅ q₅ => w_st G₅ fun j₆ G₆ q₆ => w_st G₆ fun j₇ G₇ q₇ => ?_
    have q27 : Kept [h.objs.size] j₂ j₇ := ((((q₃.nil.trans q₄.nil).trans q₅).trans q₆).trans q₇)
    have x₇' := x₂'.kept q27 (notL hLκ)
    have l₇' := l₂'.kept q27 lS
    have c₇' := cell_kept c₂' q27 hcC
    have hk8 : 0 ≤ xi / 8 % 8 ∧ xi / 8 % 8 < 8 := by omega
    have hLo1 : ∀ a ∈ [h.objs.size], 350 ≤ a := by simpa using hLlo
    have hκL : ∀ a ∈ κ.all, a ∉ [h.objs.size] := notL hLκ
    have hκlo : ∀ a ∈ κ.all, 350 ≤ a := x₁₈.lo
    have hCκ' : h.objs.size + 1 ∉ [h.objs.size] ++ κ.all := fun q => by
      rcases List.mem_append.mp q with q | q
      · exact hcC q
      · exact hCκ q
    have lSκ : ∀ a ∈ [h.objs.size] ++ κ.all, a ∉ l.all ∧ a ∈ X := fun a ha => by
      rcases List.mem_append.mp ha with q | q
      · exact lS a q
      · exact ⟨fun z => hlκ a z q, by simp [X, q]⟩
    -- if _law_told(..) != _law_due(..)
    refine w_cons (w_If (w_tCmp (w_fcall B G₇.keep (by k_is) (by k_is) (w_items (w_ld G₇ m1 (w_items (w_ld G₇ rfl (w_items (w_ld G₇ rfl (w_items (w_ld G₇ rfl (w_items0 ⟨G₇.keep, c_law_told B G₇.keep room.deeper (Around.frames_deeper hfr) (FF_consC B G₇ trivial) hLo1 x₇' hκL g'.good hk8 fun j₈ V₈ ks₈ x₈' a₈ => ?_⟩))))))))))))
    rw [sim g'] at x₈' a₈
    have G₈ := ks₈.fr B G₇ hLκ hLo1 hκlo
    have kk₈ : Kept ([h.objs.size] ++ κ.all) j₇ j₈ := ks₈.kept
    have c₈' := cell_kept c₇' kk₈ hCκ'
    have l₈' := l₇'.kept kk₈ lSκ
    have hXn : ∀ {j : Heap}, (∃ o, j.get? e = some o) → ∀ a ∈ X, a < j.objs.size := fun {j} ⟨o, eo⟩ a ha => Nat.lt_of_le_of_lt (hXe a ha) (Heap.lt_size eo)
    obtain ⟨oe, heo⟩ := hes
    have heL : e ∉ [h.objs.size] := by simp; omega
    have heκ : e ∉ κ.all := fun q => Nat.lt_irrefl _ (Nat.lt_trans (hκ18 e q) (he2 e (by simp)))
    have hel : e ∉ l.all := fun q => Nat.lt_irrefl _ (Nat.lt_trans (hl18 e q) (he2 e (by simp)))
    have he8 : j₈.get? e = some oe := kk₈ _ _ (q27 _ _ (q12 _ _ heo heL) heL) (by simp only [List.mem_append, not_or]; exact ⟨heL, heκ⟩)
    refine w_fcall B G₈.keep (by k_is) (by k_is) (w_items (w_cell c₈' (w_items (w_ld G₈ m2 (w_items (w_ld G₈ rfl (w_items (w_ld G₈ rfl (w_items (w_ld G₈ rfl (w_items0 ⟨G₈.keep, c_law_due (τ := τ) B G₈.keep room.deeper l₈' (hXn ⟨_, he8⟩) g' hk8 fun j₉ V₉ q₉ l₉' a₉ => ?_⟩)))))))))))
    refine w_neH (fun n => ne_ans (hu _) (a₈.kept (h' := j₉) q₉ l₇'.lt) a₉) (w_truthy ?_)
    first | refine if_no (by rfl) ?_ | simp only [Bool.false_eq_true, if_false]
    refine w_nil ?_
    have g₉ := g'.due (what := xi % 8) (far := xi / 64 + (i : Int)) hk8
    generalize hτ' : (lawDue τ (xi % 8) (xi / 8 % 8) (xi / 64 + (i : Int))).1 = τ' at *
    have hLl : h.objs.size ∉ l.all := fun q => (hlL _ q).1 rfl
    have hCl : h.objs.size + 1 ∉ l.all := fun q => (hlL _ q).2 rfl
    have G₉ := fk B G₈ q₉ hLl l₈'.lo
    have c₉' := cell_kept c₈' q₉ hCl
    have x₉' := x₈'.kept q₉ fun a ha z => hlκ a z ha
    obtain ⟨zs, ez, nz, pz, rz, _⟩ := l₉'.rows
    have hzl : zs.length ≤ 8 := by have := g₉.len; rw [← ez] at this; simpa using this
    -- plain = ..
    refine w_cons (w_AssignName (w_tcall B G₉.keep (by k_is) (by boot_by_name) (by decide) (w_items (w_LC5 [("rows", h.objs.size + 1)] room.hand rfl (fun _ => rfl) (fun _ => rfl) rfl (by decide) rfl (w_tcall B G₉.keep (by k_is) (by boot_by_name) (by decide) (w_items (w_int fun t => w_items (w_int fun u => w_items0 (w_range fun j₁₀ v r₁₀ q₁₀ => ⟨_, _, _, _, fun i u h' => RowV (j₁₀.objs.size + 4) h' u (plainOf (sub (1 + (i : Int)) τ'.rows)), rfl, r₁₀, fun i u h h' T x k hS => RowV.kept x k hS, ?_, ?_⟩)))))))))
    · intro i t h₂ hi ce k₂ sz₂
      have k92 := q₁₀.trans k₂
      have pz₂ := pz.kept k92 (by simp)
      have rz₂ : ∀ z ∈ zs, LRow h₂ z.1 z.2 := fun z hz => (rz z hz).kept k92 (by simp)
      have c₂ := cell_kept c₉' k92 (by simp)
      have kp₂ : In0 base h₂ := fun b o e => k92.all _ _ (G₉.keep b o e)
      refine w_tcall B kp₂ (by k_is) (by boot_by_name) (by decide) (w_items ?_)
      refine w_LCG [("sort", j₁₀.objs.size + 3)] (zp zs fun r => r.s == 1 + (i : Int)) (fun v u lo h' => ∃ z ∈ zs, v = .ref z.1 ∧ PairV lo h' u (z.2.k, z.2.z)) room.hand ?_ rfl (by decide) rfl (by decide) rfl ?_
      · rintro v u lo h' h'' S ⟨z, hz, e, p⟩ k hS
        exact ⟨z, hz, e, p.kept k hS⟩
      refine w_cell c₂ ⟨rl, _, rfl, .inl pz₂, by simp; omega, ?_, ?_, ?_⟩
      · intro C v h₃ m₃ hC hv hN hm k₃
        obtain ⟨z, hz, rfl⟩ := List.mem_map.mp hv
        have r₃ := (rz₂ z hz).kept k₃ (by simp)
        have ce₃ := cell_kept ce k₃ (by simp)
        refine w_tests1 (w_tCmp (w_Sub (w_ns hN hm (w_int fun t => w_row0 r₃ fun t => w_cell ce₃ (w_eq (w_truthy ⟨?_, Kept.refl _ _⟩))))))
        rw [zp, zf_mem nz hz]; rfl
      · intro C v h₃ m₃ hC hv _ hN hm k₃
        obtain ⟨z, hz, rfl⟩ := List.mem_map.mp hv
        have r₃ := (rz₂ z hz).kept k₃ (by simp)
        exact w_Tuple (w_items (w_Sub (w_ns hN hm (w_int fun t => w_row1 r₃ fun t1 => w_items (w_Sub (w_ns hN hm (w_int fun t => w_row2 r₃ fun t2 => w_items0 ⟨by simp, fun h₄ p₄ k₄ => ⟨⟨z, hz, rfl, _, _, _, rfl, Nat.le_refl _, p₄⟩, k₄⟩⟩)))))))
      · intro D₂ h₄ ys hD₂ pD pr k₄
        rw [zp_filter nz] at pr
        have pr' := paired_rows nz (F := fun z u => ∃ lo, h₂.objs.size ≤ lo ∧ PairV lo h₄ u (z.2.k, z.2.z)) (fun z hz => (List.mem_filter.mp hz).1) (Paired.mono (fun v u ⟨lo, hlo, z, hz, e, p⟩ => ⟨z, hz, e, lo, hlo, p⟩) pr)
        have hyl : ys.length ≤ 8 := by
          have := pr'.length
          have f := List.length_filter_le (fun z : Addr × LR => z.2.s == 1 + (i : Int)) zs
          omega
        refine w_items0 (w_tuple pD (by omega) fun h₅ a₅ k₅ ha₅ p₅ => ⟨⟨a₅, ys, rfl, ?_, p₅, ?_⟩, k₄.trans k₅⟩)
        · obtain ⟨o, eo, _⟩ := cell_kept ce k₄ (by simp)
          have : j₁₀.objs.size + 3 < a₅ := ha₅ _ _ eo
          exact this
        · rw [← ez, plain_sub]
          exact paired_flip (fun z u ⟨lo, hlo, p⟩ => (p.kept k₅ (by simp)).mono (Nat.le_trans sz₂ hlo)) pr'
    · intro D₃ j₁₁ u0 u1 u2 u3 pD r0 r1 r2 r3 q₁₁ hD₃
      refine w_items0 (w_tuple pD (by simp) fun j₁₂ pa q₁₂ hpa p₁₂' => ?_)
      have q912 := (q₁₀.trans q₁₁).trans q₁₂
      have G₁₂ := fk0 G₉ q912
      have hN : ∀ a ∈ [h.objs.size], a < j₁₀.objs.size + 4 := fun a ha => by
        rw [List.mem_singleton.mp ha]
        have : h.objs.size < j₁₀.objs.size := by obtain ⟨o, _, _, eo, _⟩ := (fk0 G₉ q₁₀).ns; exact Heap.lt_size eo
        omega
      have hpaL : pa ≠ h.objs.size := fun z => by
        obtain ⟨o, _, _, eo, _⟩ := (fk0 G₉ (q₁₀.trans q₁₁)).ns
        exact Nat.lt_irrefl _ (z ▸ hpa _ _ eo)
      refine w_st G₁₂ fun j₁₃ G₁₃ q₁₃ => ?_
      have x₁₃ := (x₉'.kept0 q912).kept q₁₃ hκL
      have l₁₃ := (l₉'.kept0 q912).kept q₁₃ lS
      have c₁₃ := cell_kept (cell_kept c₉' q912 (by simp)) q₁₃ hcC
      have p₁₃' := p₁₂'.kept q₁₃ (by simpa using hpaL)
      have r0 := (r0.kept q₁₂ (by simp)).kept q₁₃ hN
      have r1 := (r1.kept q₁₂ (by simp)).kept q₁₃ hN
      have r2 := (r2.kept q₁₂ (by simp)).kept q₁₃ hN
      have r3 := (r3.kept q₁₂ (by simp)).kept q₁₃ hN
      obtain ⟨tm', tg', d₁₃⟩ := l₁₃.st
      -- cache.plain() != (state['goal'],) + plain or ..
      refine w_cons (w_If (w_tAnd (w_or (w_tCmp (km0 mf_plain B (w_ld G₁₃ m1 ⟨_, _, rfl, G₁₃.keep, x₁₃.ca, c_ca_plain B G₁₃.keep room.deeper x₁₃ g₉.good fun j₁₄ V₁₄ q₁₄ v₁₄ => ?_⟩))))))
      refine w_BinOp (w_Tuple (w_items (w_Sub (w_ld (fk0 G₁₃ q₁₄) m2 (w_str fun t => w_sd (d₁₃.kept q₁₄ (by simp)) rfl (w_items0 ⟨by simp, fun j₁₅ p₁₅ q₁₅ => w_ld (fk0 (fk0 G₁₃ q₁₄) q₁₅) rfl (w_tadd p₁₅ ((p₁₃'.kept q₁₄ (by simp)).kept q₁₅ (by simp)) (by simp) (by simp) (by simp) fun j₁₆ q₁₆ p₁₆ => ?_)⟩))))))
      have q46 := q₁₅.trans q₁₆
      have hu2 : ∀ env, (A.deeper env).units + 2 < cLine := fun env => by have := (room.deeper (env := env) (m := 0)).units; omega
      have rk : ∀ {v l}, RowV (j₁₀.objs.size + 4) j₁₃ v l → RowV (j₁₀.objs.size + 4) j₁₆ v l := fun r => ((r.kept q₁₄ (by simp)).kept q₁₅ (by simp)).kept q₁₆ (by simp)
      have hlo16 : ∃ lo, PlainV lo j₁₆ (.ref j₁₅.objs.size) τ'.goal (plainOf (sub 1 τ'.rows)) (plainOf (sub 2 τ'.rows)) (plainOf (sub 3 τ'.rows)) (plainOf (sub 4 τ'.rows)) :=
        ⟨0, _, tg', u0, u1, u2, u3, rfl, Nat.zero_le _, p₁₆, (rk r0).mono (Nat.zero_le _), (rk r1).mono (Nat.zero_le _), (rk r2).mono (Nat.zero_le _), (rk r3).mono (Nat.zero_le _)⟩
      obtain ⟨lo16, v₁₆⟩ := hlo16
      refine w_neH (fun n => ne_plain (hu2 _) (v₁₄.kept (h' := j₁₆) q46 (by simp)) v₁₆) (w_truthy ?_)
      first | refine if_no (by rfl) ?_ | simp only [Bool.false_eq_true, if_false]
      have q16 := (q₁₄.trans q₁₅).trans q₁₆
      have G₁₆ := fk0 G₁₃ q16
      have x₁₆ := x₁₃.kept0 q16
      have l₁₆ := l₁₃.kept0 q16
      have c₁₆ := cell_kept c₁₃ q16 (by simp)
      have d₁₆ := d₁₃.kept q16 (by simp)
      obtain ⟨tc, cv⟩ := l₁₆.cn
      -- list(cache.counts.plain()) != state['counts']
      refine w_or (w_tCmp (w_tcall B G₁₆.keep (by k_is) (by boot_by_name) (by decide) (w_items (km_cplain B (w_Attr (w_ld G₁₆ m1 (cg_counts B G₁₆.keep x₁₆.ca ⟨rfl, G₁₆.keep, x₁₆.cn, c_cn_plain B G₁₆.keep room.deeper x₁₆.cn fun j₁₇ a₁₇ t₁₇ q₁₇ p₁₇ => w_items0 (w_list p₁₇ (by simp) fun j₁₈ q₁₈ p₁₈ => ?_)⟩)))))))
      have q178 := q₁₇.trans q₁₈
      refine w_Sub (w_ld (fk0 G₁₆ q178) m2 (w_str fun t => w_sd (d₁₆.kept q178 (by simp)) rfl (w_neH (fun n => ne_cn (n := τ'.cn) (t := t₁₇) (u := tc) p₁₈.isList (by obtain ⟨o, eo, r⟩ := cv; exact ⟨o, q178.all _ _ eo, r⟩) (hu _)) (w_truthy ?_))))
      first | refine if_no (by rfl) ?_ | simp only [Bool.false_eq_true, if_false]
      refine w_or0 ?_
      first | refine if_no (by rfl) ?_ | simp only [Bool.false_eq_true, if_false]
      refine w_nil ?_
      have G₁₈ := fk0 G₁₆ q178
      have x₁₈ := x₁₆.kept0 q178
      have l₁₈ := l₁₆.kept0 q178
      have c₁₈ := cell_kept c₁₆ q178 (by simp)
      -- cache.used() != _law_total(rows, (1, 2)) or cache.most != state['most']
      refine w_cons (w_If (w_tAnd (w_or (w_tCmp (km0 mf_used B (w_ld G₁₈ m1 ⟨_, _, rfl, G₁₈.keep, x₁₈.ca, c_ca_used B G₁₈.keep room.deeper x₁₈ fun j₁₉ t₁₉ q₁₉ => s_total (ss := [1, 2]) B room.deeper (fk0 G₁₈ q₁₉) (l₁₈.kept0 q₁₉).rows g₉.sz (w_cell (cell_kept c₁₈ q₁₉ (by simp)) ⟨rfl, rfl⟩) (s_tup2 _ fun h' d vs p i k => ⟨d, vs, rfl, p, i, k⟩) fun j₂₀ t₂₀ q₂₀ => w_ne (w_truthy ?_)⟩))))))
      have eu : (usedS (abs τ') != ltot [1, 2] τ'.rows) = false := by rw [ltot2 (by decide)]; simp [usedS, abs]
      rw [eu]
      first | refine if_no (by rfl) ?_ | simp only [Bool.false_eq_true, if_false]
      have q20 := (q178.trans q₁₉).trans q₂₀
      have G₂₀ := fk0 (fk0 G₁₈ q₁₉) q₂₀
      have x₂₀ := (x₁₈.kept0 q₁₉).kept0 q₂₀
      have l₂₀ := (l₁₈.kept0 q₁₉).kept0 q₂₀
      have c₂₀ := cell_kept (cell_kept c₁₈ q₁₉ (by simp)) q₂₀ (by simp)
      refine w_or (w_tCmp (w_Attr (w_ld G₂₀ m1 (cg_most B G₂₀.keep x₂₀.ca fun t => w_Sub (w_ld G₂₀ m2 (w_str fun t => w_sd (d₁₆.kept q20 (by simp)) rfl (w_ne (w_truthy ?_))))))))
      have em : ((abs τ').most != τ'.most) = false := by simp [abs]
      rw [em]
      first | refine if_no (by rfl) ?_ | simp only [Bool.false_eq_true, if_false]
      refine w_or0 ?_
      first | refine if_no (by rfl) ?_ | simp only [Bool.false_eq_true, if_false]
      refine w_nil (w_nil ?_)
      have kS : Kept (([h.objs.size] ++ κ.all) ++ l.all) hh j₂₀ := by
        have a1 : ∀ a ∈ [h.objs.size], a ∈ ([h.objs.size] ++ κ.all) ++ l.all := fun a q => List.mem_append_left _ (List.mem_append_left _ q)
        exact (((((((q12.mono a1).trans (q27.mono a1)).trans (kk₈.mono fun a q => List.mem_append_left _ q)).trans (q₉.mono fun a q => List.mem_append_right _ q)).trans q912.nil).trans (q₁₃.mono a1)).trans q16.nil).trans q20.nil
      have nS : ∀ a : Nat, h₁₈.objs.size ≤ a → a ∉ (([h.objs.size] ++ κ.all) ++ l.all) := fun a ha q => by
        rcases List.mem_append.mp q with q | q
        · rcases List.mem_append.mp q with q | q
          · rw [List.mem_singleton.mp q] at ha; omega
          · have := hκ18 a q; omega
        · have := hl18 a q; omega
      refine ⟨⟨τ', _, G₂₀, m1, m2, c₂₀, x₂₀, l₂₀, g₉, Kept.drop (S := []) (T := ([h.objs.size] ++ κ.all) ++ l.all) (k'.nil.trans kS) fun a ha => none_ge ?_⟩, _, kS, nS _ (Nat.le_of_lt (he2 e (by simp))), nS _ (Nat.le_of_lt h18i), nS _ hD18⟩
      rcases List.mem_append.mp ha with q | q
      · rcases List.mem_append.mp q with q | q
        · rw [List.mem_singleton.mp q]; exact Nat.le_refl _
        · exact Nat.le_trans (Nat.le_of_lt hL6) (hκ a q)
      · have e5 : ∀ b : Nat, b ∈ l.all → h.objs.size ≤ b := fun b hb => by
          simp only [l, LA.all, List.mem_cons, List.not_mem_nil, or_false] at hb
          omega
        exact e5 a q
  · rintro hh ⟨τ, m, F', m1, m2, c', x', l', g', k'⟩
    exact w_nil (w_cons (w_Return (w_bool (q _ k'))))
end
end Mine
end

section
open PySem PySem.W PyProof.Rows PySem.Calls
namespace Mine
theorem ints_of {vs : List Value} {ns : List Int} (h : IntsAre vs ns) : Ints vs := by
  induction h with
  | nil => exact fun v h => nomatch h
  | cons n t r ih =>
    intro v h
    rcases List.mem_cons.mp h with q | q
    · exact ⟨_, _, q⟩
    · exact ih v q
theorem joined : PySem.Challenge.rw_np0195_01.Holds := hd <| by
  intro w s₀ s₁ mg mb G Y fa o pm cd doc dV kV ho hd' hcd hD hmg hg args vals as hpre hlay hrd hwl hlo
  have KX := kIn_of Y
  refine Ground.open G ?_
  intro T B D TE TW
  clear B D TE TW
  wrow_args hpre hlay hrd hwl hlo
  refine enter_call ?_
  rename_i ns _ _ _ _ _ _ _ la vs _ hL _ _ _ hI _ hc _
  have hfa : fa = 349 := by
    have := mg_of KX T.g (by k_is : nsIn (KF w.params) mainGlobals "law" = some (some (.ref 349)))
    have e := hmg.symm.trans this
    cases e; rfl
  subst hfa
  have B := Base.of KX (topRead_of T)
  have hv : Ints vs := ints_of hI
  have hl : vs.length ≤ 63 := by have := hI.length; omega
  have room : Room callerA 8 := ⟨by decide +kernel, by decide +kernel, rfl⟩
  refine codeAny_mono ((c_law (c := ⟨s₁.gens, s₁.drawn, s₁.os⟩) (A := callerA) (R := fun r h' => r = .ok (.ret (.bool true)) ∧ Kept [] s₁.heap h') B (fun b o e => cutH_old e) room rfl hL hv hl (fun h' k => ⟨rfl, k⟩)).out s₁.toks) fun r s' ⟨h', n', e, e2, k⟩ => ?_
  subst e e2
  refine GoodW.toG ⟨.inl ⟨.bool true, ofPy (.bool true), [], rfl, fun cls => ?_, ?_, ?_, ?_⟩, fun b o e => k.all b o e, rfl, hg⟩
  · rfl
  · exact .bool true
  · show _ = true
    wrow_post
  · exact fun _ => ⟨List.nodup_nil, fun a ha => nomatch ha⟩
end Mine
end

theorem PySem.Challenge.cw_np0195_01_holds : PySem.Challenge.rw_np0195_01.Holds :=
  Mine.joined
