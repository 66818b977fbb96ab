import PyProof.Rows.All
import Wide.All
import OpenK.AllK
import Wide.FinOn
import Lean
import PySem.Challenge.RW_og0080_01
set_option Elab.async false
set_option maxRecDepth 100000
section
open PySem PySem.W PySem.Calls PyProof.Rows
namespace Mine
/-- the n-th statement -/
def nth : List Stmt → Nat → Stmt
  | s :: _, 0 => s
  | _ :: r, n + 1 => nth r n
  | [], _ => .Pass ⟨0, 0, 0, 0⟩
def bodyOf : Stmt → List Stmt
  | .FunctionDef _ _ b _ _ _ _ _ _ _ => b
  | _ => []
def clsBody : Stmt → List Stmt
  | .ClassDef _ _ _ b _ _ _ _ _ _ _ => b
  | _ => []
def paramsOf : Stmt → Arguments
  | .FunctionDef _ a _ _ _ _ _ _ _ _ => a
  | _ => ⟨[], [], none, [], [], none, []⟩
def scopeOf : Stmt → Scope
  | .FunctionDef _ _ _ _ _ _ s _ _ _ => s
  | _ => default
abbrev PG : Program := PySem.Challenge.rw_og0080_01.row.prog
def topStmt (n : Nat) : Stmt := nth PySem.Challenge.rw_og0080_01.prog.main.body n
def inCls (i j : Nat) : Stmt := nth (clsBody (topStmt i)) j
noncomputable def o43 (_ : Params) : Obj := ⟨(.type "tuple"), .none, (.seq #[] 0), #[]⟩
noncomputable def o44 (_ : Params) : Obj := ⟨.none, .none, (.fields #[]), #[]⟩
noncomputable def o45 (_ : Params) : Obj := ⟨(.type "code"), .none, (.fields #[(.str (.ofString "<module>") 182), (.str (.ofString "<module>") 183), (.str (.ofString "/claim/cut.py") 184), (.int 1 0), (.int 0 0), (.int 0 0), (.int 0 0), (.int 0 0), (.ref 11), (.bool .false), (.int 181 0), (.ref 12), .none, .none, .none, .none, (.int 185 0), (.int 1 0), (.str (.ofString "/claim/cut.py") 186)]), #[]⟩
noncomputable def o46 (_ : Params) : Obj := ⟨(.type "frame"), .none, .plain, #[(.some (.ref 13)), (.some (.ref 3)), (.some (.ref 3)), .none, (.some (.str (.ofString "__main__") 164)), .none, (.some (.ref 0))]⟩
noncomputable def o49 (P : Params) : Obj := ⟨.none, .none, (.dict #[⟨(PyData.keyHash P (.ofString "type.__subclasses__.Exception.0")), (.str (.ofString "type.__subclasses__.Exception.0") 232), (.int 47 0)⟩, ⟨(PyData.keyHash P (.ofString "type.__subclasses__.Exception.n")), (.str (.ofString "type.__subclasses__.Exception.n") 233), (.int 1 0)⟩] 2), #[]⟩
noncomputable def o50 (P : Params) : Obj := ⟨(.type "dict"), .none, (.dict #[⟨(PyData.keyHash P (.ofString "__name__")), (.str (.ofString "__name__") 165), (.str (.ofString "ledgerspeak.errors") 194)⟩, ⟨(PyData.keyHash P (.ofString "__doc__")), (.str (.ofString "__doc__") 166), .none⟩, ⟨(PyData.keyHash P (.ofString "__package__")), (.str (.ofString "__package__") 167), .none⟩, ⟨(PyData.keyHash P (.ofString "__loader__")), (.str (.ofString "__loader__") 168), (.builtin "__main__.__loader__#opaque")⟩, ⟨(PyData.keyHash P (.ofString "__spec__")), (.str (.ofString "__spec__") 169), .none⟩, ⟨(PyData.keyHash P (.ofString "__annotations__")), (.str (.ofString "__annotations__") 170), (.ref 6)⟩, ⟨(PyData.keyHash P (.ofString "__builtins__")), (.str (.ofString "__builtins__") 171), (.ref 4)⟩, ⟨(PyData.keyHash P (.ofString "__file__")), (.str (.ofString "__file__") 173), (.str (.ofString "/claim/cut.py") 172)⟩, ⟨(PyData.keyHash P (.ofString "__cached__")), (.str (.ofString "__cached__") 174), .none⟩, ⟨(PyData.keyHash P (.ofString "_wall")), (.str (.ofString "_wall") 193), (.ref 21)⟩, ⟨(PyData.keyHash P (.ofString "LedgerError")), (.str (.ofString "LedgerError") 235), (.ref 47)⟩] 11), #[]⟩
noncomputable def o51 (_ : Params) : Obj := ⟨.none, .none, (.fields #[(.int 1 0), (.int 0 0), (.ref 20), (.int 5 0), (.int 0 0), (.ref 27)]), #[]⟩
noncomputable def o52 (_ : Params) : Obj := ⟨(.type "tuple"), .none, (.seq #[] 0), #[]⟩
noncomputable def o53 (_ : Params) : Obj := ⟨.none, .none, (.fields #[]), #[]⟩
noncomputable def o54 (_ : Params) : Obj := ⟨(.type "tuple"), .none, (.seq #[(.str (.ofString "k") 190)] 0), #[]⟩
noncomputable def o55 (_ : Params) : Obj := ⟨(.type "tuple"), .none, (.seq #[] 0), #[]⟩
noncomputable def o56 (_ : Params) : Obj := ⟨.none, .none, (.func ⟨(.ofString "_wall"), (.ofString "_wall"), paramsOf (topStmt 0), .stmts (bodyOf (topStmt 0)), scopeOf (topStmt 0), 0, [], .none, .none, .none, .none, .none, .none, .none, 0⟩), #[]⟩
noncomputable def o57 (_ : Params) : Obj := ⟨(.type "code"), .none, (.fields #[(.str (.ofString "_wall") 187), (.str (.ofString "_wall") 188), (.str (.ofString "/claim/cut.py") 189), (.int 1 0), (.int 1 0), (.int 0 0), (.int 0 0), (.int 3 0), (.ref 15), (.bool .true), (.int 181 0), (.ref 16), .none, (.ref 17), (.ref 18), (.ref 19), (.int 191 0), (.int 1 0), (.str (.ofString "/claim/cut.py") 192)]), #[]⟩
noncomputable def o58 (_ : Params) : Obj := ⟨(.type "function"), .none, (.func ⟨(.ofString "_wall"), (.ofString "_wall"), paramsOf (topStmt 0), .stmts (bodyOf (topStmt 0)), scopeOf (topStmt 0), 3, [], .none, .none, .none, (.str (.ofString "__main__") 164), .none, (.ref 20), .none, 0⟩), #[]⟩
noncomputable def o59 (_ : Params) : Obj := ⟨(.type "tuple"), .none, (.seq #[(.type "Exception")] 0), #[]⟩
noncomputable def o60 (_ : Params) : Obj := ⟨(.type "builtin_function_or_method"), .none, (.fields #[(.builtin "type.__prepare__"), (.type "type")]), #[]⟩
noncomputable def o61 (P : Params) : Obj := ⟨(.type "dict"), .none, (.dict #[⟨(PyData.keyHash P (.ofString "__module__")), (.str (.ofString "__module__") 203), (.str (.ofString "ledgerspeak.errors") 194)⟩, ⟨(PyData.keyHash P (.ofString "__qualname__")), (.str (.ofString "__qualname__") 205), (.str (.ofString "LedgerError") 204)⟩, ⟨(PyData.keyHash P (.ofString "__firstlineno__")), (.str (.ofString "__firstlineno__") 207), (.int 5 206)⟩, ⟨(PyData.keyHash P (.ofString "__init__")), (.str (.ofString "__init__") 218), (.ref 37)⟩, ⟨(PyData.keyHash P (.ofString "told")), (.str (.ofString "told") 225), (.ref 44)⟩, ⟨(PyData.keyHash P (.ofString "__static_attributes__")), (.str (.ofString "__static_attributes__") 228), (.ref 45)⟩] 6), #[]⟩
noncomputable def o62 (_ : Params) : Obj := ⟨(.type "tuple"), .none, (.seq #[] 0), #[]⟩
noncomputable def o63 (_ : Params) : Obj := ⟨.none, .none, (.fields #[(.int 7 0), (.int 4 0), (.ref 36), (.int 12 0), (.int 4 0), (.ref 43)]), #[]⟩
noncomputable def o64 (_ : Params) : Obj := ⟨(.type "code"), .none, (.fields #[(.str (.ofString "LedgerError") 198), (.str (.ofString "LedgerError") 199), (.str (.ofString "/claim/cut.py") 200), (.int 5 0), (.int 0 0), (.int 0 0), (.int 0 0), (.int 0 0), (.ref 25), (.bool .false), (.int 181 0), (.ref 26), .none, .none, .none, .none, (.int 201 0), (.int 5 0), (.str (.ofString "/claim/cut.py") 202)]), #[]⟩
noncomputable def o65 (_ : Params) : Obj := ⟨(.type "frame"), .none, .plain, #[(.some (.ref 27)), (.some (.ref 3)), (.some (.ref 24)), .none, (.some (.str (.ofString "ledgerspeak.errors") 194)), .none, (.some (.ref 0))]⟩
noncomputable def o66 (_ : Params) : Obj := ⟨(.type "tuple"), .none, (.seq #[(.int 0 208), (.int 0 209)] 0), #[]⟩
noncomputable def o67 (_ : Params) : Obj := ⟨(.type "tuple"), .none, (.seq #[(.ref 29)] 0), #[]⟩
noncomputable def o68 (_ : Params) : Obj := ⟨(.type "tuple"), .none, (.seq #[] 0), #[]⟩
noncomputable def o69 (_ : Params) : Obj := ⟨.none, .none, (.fields #[]), #[]⟩
noncomputable def o70 (_ : Params) : Obj := ⟨(.type "tuple"), .none, (.seq #[(.str (.ofString "self") 213), (.str (.ofString "what") 214), (.str (.ofString "at") 215)] 0), #[]⟩
noncomputable def o71 (_ : Params) : Obj := ⟨(.type "tuple"), .none, (.seq #[] 0), #[]⟩
noncomputable def o72 (_ : Params) : Obj := ⟨.none, .none, (.func ⟨(.ofString "__init__"), (.ofString "LedgerError.__init__"), paramsOf (inCls 2 0), .stmts (bodyOf (inCls 2 0)), scopeOf (inCls 2 0), 0, [], .none, .none, .none, .none, .none, .none, .none, 0⟩), #[]⟩
noncomputable def o73 (_ : Params) : Obj := ⟨(.type "code"), .none, (.fields #[(.str (.ofString "__init__") 210), (.str (.ofString "LedgerError.__init__") 211), (.str (.ofString "/claim/cut.py") 212), (.int 7 0), (.int 3 0), (.int 0 0), (.int 0 0), (.int 3 0), (.ref 31), (.bool .true), (.int 181 0), (.ref 32), .none, (.ref 33), (.ref 34), (.ref 35), (.int 216 0), (.int 7 0), (.str (.ofString "/claim/cut.py") 217)]), #[]⟩
noncomputable def o74 (_ : Params) : Obj := ⟨(.type "function"), .none, (.func ⟨(.ofString "__init__"), (.ofString "LedgerError.__init__"), paramsOf (inCls 2 0), .stmts (bodyOf (inCls 2 0)), scopeOf (inCls 2 0), 3, [], (.ref 30), .none, .none, (.str (.ofString "ledgerspeak.errors") 194), .none, (.ref 36), .none, 0⟩), #[]⟩
noncomputable def o75 (_ : Params) : Obj := ⟨(.type "tuple"), .none, (.seq #[] 0), #[]⟩
noncomputable def o76 (_ : Params) : Obj := ⟨.none, .none, (.fields #[]), #[]⟩
noncomputable def o77 (_ : Params) : Obj := ⟨(.type "tuple"), .none, (.seq #[(.str (.ofString "self") 222)] 0), #[]⟩
noncomputable def o78 (_ : Params) : Obj := ⟨(.type "tuple"), .none, (.seq #[] 0), #[]⟩
noncomputable def o79 (_ : Params) : Obj := ⟨.none, .none, (.func ⟨(.ofString "told"), (.ofString "LedgerError.told"), paramsOf (inCls 2 1), .stmts (bodyOf (inCls 2 1)), scopeOf (inCls 2 1), 0, [], .none, .none, .none, .none, .none, .none, .none, 0⟩), #[]⟩
noncomputable def o80 (_ : Params) : Obj := ⟨(.type "code"), .none, (.fields #[(.str (.ofString "told") 219), (.str (.ofString "LedgerError.told") 220), (.str (.ofString "/claim/cut.py") 221), (.int 12 0), (.int 1 0), (.int 0 0), (.int 0 0), (.int 3 0), (.ref 38), (.bool .true), (.int 181 0), (.ref 39), .none, (.ref 40), (.ref 41), (.ref 42), (.int 223 0), (.int 12 0), (.str (.ofString "/claim/cut.py") 224)]), #[]⟩
noncomputable def o81 (_ : Params) : Obj := ⟨(.type "function"), .none, (.func ⟨(.ofString "told"), (.ofString "LedgerError.told"), paramsOf (inCls 2 1), .stmts (bodyOf (inCls 2 1)), scopeOf (inCls 2 1), 3, [], .none, .none, .none, (.str (.ofString "ledgerspeak.errors") 194), .none, (.ref 43), .none, 0⟩), #[]⟩
noncomputable def o82 (_ : Params) : Obj := ⟨(.type "tuple"), .none, (.seq #[(.str (.ofString "at") 226), (.str (.ofString "what") 227)] 0), #[]⟩
noncomputable def o83 (P : Params) : Obj := ⟨(.type "dict"), .none, (.dict #[⟨(PyData.keyHash P (.ofString "__module__")), (.str (.ofString "__module__") 203), (.str (.ofString "ledgerspeak.errors") 194)⟩, ⟨(PyData.keyHash P (.ofString "__firstlineno__")), (.str (.ofString "__firstlineno__") 207), (.int 5 206)⟩, ⟨(PyData.keyHash P (.ofString "__init__")), (.str (.ofString "__init__") 218), (.ref 37)⟩, ⟨(PyData.keyHash P (.ofString "told")), (.str (.ofString "told") 225), (.ref 44)⟩, ⟨(PyData.keyHash P (.ofString "__static_attributes__")), (.str (.ofString "__static_attributes__") 228), (.ref 45)⟩, ⟨(PyData.keyHash P (.ofString "__weakref__")), (.str (.ofString "__weakref__") 230), (.ref 48)⟩, ⟨(PyData.keyHash P (.ofString "__doc__")), (.str (.ofString "__doc__") 231), .none⟩] 3), #[]⟩
noncomputable def o84 (_ : Params) : Obj := ⟨(.type "type"), .none, (.cls ⟨(.ofString "LedgerError"), [(.type "Exception")], [(.ref 47), (.type "Exception"), (.type "BaseException"), (.type "object")], 46, (.ofString "LedgerError"), .true, [], [], .false, .none, .false⟩), #[(.some (.ref 22)), .none, (.some (.str (.ofString "LedgerError") 196)), (.some (.str (.ofString "LedgerError") 204)), (.some (.builtin "Exception.__new__")), (.some (.bool .true))]⟩
noncomputable def o85 (_ : Params) : Obj := ⟨(.type "getset_descriptor"), .none, (.fields #[(.str (.ofString "__weakref__") 229), (.ref 47), (.builtin "ExceptionGroup.__weakref__"), .none]), #[]⟩
noncomputable def o86 (_ : Params) : Obj := ⟨(.type "super"), .none, (.fields #[(.ref 47), (.ref 47), (.ref 47)]), #[]⟩
noncomputable def o87 (_ : Params) : Obj := ⟨(.type "builtin_function_or_method"), .none, (.fields #[(.builtin "object.__init_subclass__"), (.ref 47)]), #[]⟩
noncomputable def o88 (P : Params) : Obj := ⟨(.type "dict"), .none, (.dict #[⟨(PyData.keyHash P (.ofString "__name__")), (.str (.ofString "__name__") 165), (.str (.ofString "ledgerspeak.items") 252)⟩, ⟨(PyData.keyHash P (.ofString "__doc__")), (.str (.ofString "__doc__") 166), .none⟩, ⟨(PyData.keyHash P (.ofString "__package__")), (.str (.ofString "__package__") 167), .none⟩, ⟨(PyData.keyHash P (.ofString "__loader__")), (.str (.ofString "__loader__") 168), (.builtin "__main__.__loader__#opaque")⟩, ⟨(PyData.keyHash P (.ofString "__spec__")), (.str (.ofString "__spec__") 169), .none⟩, ⟨(PyData.keyHash P (.ofString "__annotations__")), (.str (.ofString "__annotations__") 170), (.ref 6)⟩, ⟨(PyData.keyHash P (.ofString "__builtins__")), (.str (.ofString "__builtins__") 171), (.ref 4)⟩, ⟨(PyData.keyHash P (.ofString "__file__")), (.str (.ofString "__file__") 173), (.str (.ofString "/claim/cut.py") 172)⟩, ⟨(PyData.keyHash P (.ofString "__cached__")), (.str (.ofString "__cached__") 174), .none⟩, ⟨(PyData.keyHash P (.ofString "_wall")), (.str (.ofString "_wall") 193), (.ref 21)⟩, ⟨(PyData.keyHash P (.ofString "LedgerError")), (.str (.ofString "LedgerError") 235), (.ref 47)⟩, ⟨(PyData.keyHash P (.ofString "DataFault")), (.str (.ofString "DataFault") 251), (.ref 60)⟩] 12), #[]⟩
noncomputable def o89 (_ : Params) : Obj := ⟨.none, .none, (.fields #[(.int 1 0), (.int 0 0), (.ref 20), (.int 5 0), (.int 0 0), (.ref 27), (.int 14 0), (.int 0 0), (.ref 56)]), #[]⟩
noncomputable def o90 (_ : Params) : Obj := ⟨(.type "type"), .none, (.cls ⟨(.ofString "LedgerError"), [(.type "Exception")], [(.ref 47), (.type "Exception"), (.type "BaseException"), (.type "object")], 46, (.ofString "LedgerError"), .true, [], [(.ref 60)], .false, .none, .false⟩), #[(.some (.ref 22)), .none, (.some (.str (.ofString "LedgerError") 196)), (.some (.str (.ofString "LedgerError") 204)), (.some (.builtin "Exception.__new__")), (.some (.bool .true))]⟩
noncomputable def o91 (_ : Params) : Obj := ⟨(.type "tuple"), .none, (.seq #[(.ref 47)] 0), #[]⟩
noncomputable def o92 (_ : Params) : Obj := ⟨(.type "builtin_function_or_method"), .none, (.fields #[(.builtin "type.__prepare__"), (.type "type")]), #[]⟩
noncomputable def o93 (P : Params) : Obj := ⟨(.type "dict"), .none, (.dict #[⟨(PyData.keyHash P (.ofString "__module__")), (.str (.ofString "__module__") 243), (.str (.ofString "ledgerspeak.errors") 194)⟩, ⟨(PyData.keyHash P (.ofString "__qualname__")), (.str (.ofString "__qualname__") 245), (.str (.ofString "DataFault") 244)⟩, ⟨(PyData.keyHash P (.ofString "__firstlineno__")), (.str (.ofString "__firstlineno__") 247), (.int 14 246)⟩, ⟨(PyData.keyHash P (.ofString "__static_attributes__")), (.str (.ofString "__static_attributes__") 248), (.ref 58)⟩] 4), #[]⟩
noncomputable def o94 (_ : Params) : Obj := ⟨(.type "tuple"), .none, (.seq #[] 0), #[]⟩
noncomputable def o95 (_ : Params) : Obj := ⟨.none, .none, (.fields #[]), #[]⟩
noncomputable def o96 (_ : Params) : Obj := ⟨(.type "code"), .none, (.fields #[(.str (.ofString "DataFault") 238), (.str (.ofString "DataFault") 239), (.str (.ofString "/claim/cut.py") 240), (.int 14 0), (.int 0 0), (.int 0 0), (.int 0 0), (.int 0 0), (.ref 54), (.bool .false), (.int 181 0), (.ref 55), .none, .none, .none, .none, (.int 241 0), (.int 14 0), (.str (.ofString "/claim/cut.py") 242)]), #[]⟩
noncomputable def o97 (_ : Params) : Obj := ⟨(.type "frame"), .none, .plain, #[(.some (.ref 56)), (.some (.ref 3)), (.some (.ref 53)), .none, (.some (.str (.ofString "ledgerspeak.errors") 194)), .none, (.some (.ref 0))]⟩
noncomputable def o98 (_ : Params) : Obj := ⟨(.type "tuple"), .none, (.seq #[] 0), #[]⟩
noncomputable def o99 (P : Params) : Obj := ⟨(.type "dict"), .none, (.dict #[⟨(PyData.keyHash P (.ofString "__module__")), (.str (.ofString "__module__") 243), (.str (.ofString "ledgerspeak.errors") 194)⟩, ⟨(PyData.keyHash P (.ofString "__firstlineno__")), (.str (.ofString "__firstlineno__") 247), (.int 14 246)⟩, ⟨(PyData.keyHash P (.ofString "__static_attributes__")), (.str (.ofString "__static_attributes__") 248), (.ref 58)⟩, ⟨(PyData.keyHash P (.ofString "__doc__")), (.str (.ofString "__doc__") 249), .none⟩] 2), #[]⟩
noncomputable def o100 (_ : Params) : Obj := ⟨(.type "type"), .none, (.cls ⟨(.ofString "DataFault"), [(.ref 47)], [(.ref 60), (.ref 47), (.type "Exception"), (.type "BaseException"), (.type "object")], 59, (.ofString "DataFault"), .true, [], [], .false, .none, .false⟩), #[(.some (.ref 51)), .none, (.some (.str (.ofString "DataFault") 236)), (.some (.str (.ofString "DataFault") 244)), (.some (.builtin "Exception.__new__")), (.some (.bool .true))]⟩
noncomputable def o101 (_ : Params) : Obj := ⟨(.type "super"), .none, (.fields #[(.ref 60), (.ref 60), (.ref 60)]), #[]⟩
noncomputable def o102 (_ : Params) : Obj := ⟨(.type "builtin_function_or_method"), .none, (.fields #[(.builtin "object.__init_subclass__"), (.ref 60)]), #[]⟩
noncomputable def o103 (P : Params) : Obj := ⟨(.type "dict"), .none, (.dict #[⟨(PyData.keyHash P (.ofString "__name__")), (.str (.ofString "__name__") 165), (.str (.ofString "ledgerspeak.items") 252)⟩, ⟨(PyData.keyHash P (.ofString "__doc__")), (.str (.ofString "__doc__") 166), .none⟩, ⟨(PyData.keyHash P (.ofString "__package__")), (.str (.ofString "__package__") 167), .none⟩, ⟨(PyData.keyHash P (.ofString "__loader__")), (.str (.ofString "__loader__") 168), (.builtin "__main__.__loader__#opaque")⟩, ⟨(PyData.keyHash P (.ofString "__spec__")), (.str (.ofString "__spec__") 169), .none⟩, ⟨(PyData.keyHash P (.ofString "__annotations__")), (.str (.ofString "__annotations__") 170), (.ref 6)⟩, ⟨(PyData.keyHash P (.ofString "__builtins__")), (.str (.ofString "__builtins__") 171), (.ref 4)⟩, ⟨(PyData.keyHash P (.ofString "__file__")), (.str (.ofString "__file__") 173), (.str (.ofString "/claim/cut.py") 172)⟩, ⟨(PyData.keyHash P (.ofString "__cached__")), (.str (.ofString "__cached__") 174), .none⟩, ⟨(PyData.keyHash P (.ofString "_wall")), (.str (.ofString "_wall") 193), (.ref 21)⟩, ⟨(PyData.keyHash P (.ofString "LedgerError")), (.str (.ofString "LedgerError") 235), (.ref 47)⟩, ⟨(PyData.keyHash P (.ofString "DataFault")), (.str (.ofString "DataFault") 251), (.ref 60)⟩, ⟨(PyData.keyHash P (.ofString "Named")), (.str (.ofString "Named") 291), (.ref 86)⟩] 13), #[]⟩
noncomputable def o104 (_ : Params) : Obj := ⟨.none, .none, (.fields #[(.int 1 0), (.int 0 0), (.ref 20), (.int 5 0), (.int 0 0), (.ref 27), (.int 14 0), (.int 0 0), (.ref 56), (.int 17 0), (.int 0 0), (.ref 68)]), #[]⟩
noncomputable def o105 (_ : Params) : Obj := ⟨(.type "tuple"), .none, (.seq #[] 0), #[]⟩
noncomputable def o106 (_ : Params) : Obj := ⟨(.type "builtin_function_or_method"), .none, (.fields #[(.builtin "type.__prepare__"), (.type "type")]), #[]⟩
noncomputable def o107 (P : Params) : Obj := ⟨(.type "dict"), .none, (.dict #[⟨(PyData.keyHash P (.ofString "__module__")), (.str (.ofString "__module__") 261), (.str (.ofString "ledgerspeak.items") 252)⟩, ⟨(PyData.keyHash P (.ofString "__qualname__")), (.str (.ofString "__qualname__") 263), (.str (.ofString "Named") 262)⟩, ⟨(PyData.keyHash P (.ofString "__firstlineno__")), (.str (.ofString "__firstlineno__") 265), (.int 17 264)⟩, ⟨(PyData.keyHash P (.ofString "__init__")), (.str (.ofString "__init__") 274), (.ref 76)⟩, ⟨(PyData.keyHash P (.ofString "told")), (.str (.ofString "told") 281), (.ref 83)⟩, ⟨(PyData.keyHash P (.ofString "__static_attributes__")), (.str (.ofString "__static_attributes__") 284), (.ref 84)⟩] 6), #[]⟩
noncomputable def o108 (_ : Params) : Obj := ⟨(.type "tuple"), .none, (.seq #[] 0), #[]⟩
noncomputable def o109 (_ : Params) : Obj := ⟨.none, .none, (.fields #[(.int 19 0), (.int 4 0), (.ref 75), (.int 23 0), (.int 4 0), (.ref 82)]), #[]⟩
noncomputable def o110 (_ : Params) : Obj := ⟨(.type "code"), .none, (.fields #[(.str (.ofString "Named") 256), (.str (.ofString "Named") 257), (.str (.ofString "/claim/cut.py") 258), (.int 17 0), (.int 0 0), (.int 0 0), (.int 0 0), (.int 0 0), (.ref 66), (.bool .false), (.int 181 0), (.ref 67), .none, .none, .none, .none, (.int 259 0), (.int 17 0), (.str (.ofString "/claim/cut.py") 260)]), #[]⟩
noncomputable def o111 (_ : Params) : Obj := ⟨(.type "frame"), .none, .plain, #[(.some (.ref 68)), (.some (.ref 3)), (.some (.ref 65)), .none, (.some (.str (.ofString "ledgerspeak.items") 252)), .none, (.some (.ref 0))]⟩
noncomputable def o112 (_ : Params) : Obj := ⟨(.type "tuple"), .none, (.seq #[] 0), #[]⟩
noncomputable def o113 (_ : Params) : Obj := ⟨.none, .none, (.fields #[]), #[]⟩
noncomputable def o114 (_ : Params) : Obj := ⟨(.type "tuple"), .none, (.seq #[(.str (.ofString "self") 269), (.str (.ofString "name") 270), (.str (.ofString "rows") 271)] 0), #[]⟩
noncomputable def o115 (_ : Params) : Obj := ⟨(.type "tuple"), .none, (.seq #[] 0), #[]⟩
noncomputable def o116 (_ : Params) : Obj := ⟨.none, .none, (.func ⟨(.ofString "__init__"), (.ofString "Named.__init__"), paramsOf (inCls 5 0), .stmts (bodyOf (inCls 5 0)), scopeOf (inCls 5 0), 0, [], .none, .none, .none, .none, .none, .none, .none, 0⟩), #[]⟩
noncomputable def o117 (_ : Params) : Obj := ⟨(.type "code"), .none, (.fields #[(.str (.ofString "__init__") 266), (.str (.ofString "Named.__init__") 267), (.str (.ofString "/claim/cut.py") 268), (.int 19 0), (.int 3 0), (.int 0 0), (.int 0 0), (.int 3 0), (.ref 70), (.bool .true), (.int 181 0), (.ref 71), .none, (.ref 72), (.ref 73), (.ref 74), (.int 272 0), (.int 19 0), (.str (.ofString "/claim/cut.py") 273)]), #[]⟩
noncomputable def o118 (_ : Params) : Obj := ⟨(.type "function"), .none, (.func ⟨(.ofString "__init__"), (.ofString "Named.__init__"), paramsOf (inCls 5 0), .stmts (bodyOf (inCls 5 0)), scopeOf (inCls 5 0), 3, [], .none, .none, .none, (.str (.ofString "ledgerspeak.items") 252), .none, (.ref 75), .none, 0⟩), #[]⟩
noncomputable def o119 (_ : Params) : Obj := ⟨(.type "tuple"), .none, (.seq #[] 0), #[]⟩
noncomputable def o120 (_ : Params) : Obj := ⟨.none, .none, (.fields #[]), #[]⟩
noncomputable def o121 (_ : Params) : Obj := ⟨(.type "tuple"), .none, (.seq #[(.str (.ofString "self") 278)] 0), #[]⟩
noncomputable def o122 (_ : Params) : Obj := ⟨(.type "tuple"), .none, (.seq #[] 0), #[]⟩
noncomputable def o123 (_ : Params) : Obj := ⟨.none, .none, (.func ⟨(.ofString "told"), (.ofString "Named.told"), paramsOf (inCls 5 1), .stmts (bodyOf (inCls 5 1)), scopeOf (inCls 5 1), 0, [], .none, .none, .none, .none, .none, .none, .none, 0⟩), #[]⟩
noncomputable def o124 (_ : Params) : Obj := ⟨(.type "code"), .none, (.fields #[(.str (.ofString "told") 275), (.str (.ofString "Named.told") 276), (.str (.ofString "/claim/cut.py") 277), (.int 23 0), (.int 1 0), (.int 0 0), (.int 0 0), (.int 3 0), (.ref 77), (.bool .true), (.int 181 0), (.ref 78), .none, (.ref 79), (.ref 80), (.ref 81), (.int 279 0), (.int 23 0), (.str (.ofString "/claim/cut.py") 280)]), #[]⟩
noncomputable def o125 (_ : Params) : Obj := ⟨(.type "function"), .none, (.func ⟨(.ofString "told"), (.ofString "Named.told"), paramsOf (inCls 5 1), .stmts (bodyOf (inCls 5 1)), scopeOf (inCls 5 1), 3, [], .none, .none, .none, (.str (.ofString "ledgerspeak.items") 252), .none, (.ref 82), .none, 0⟩), #[]⟩
noncomputable def o126 (_ : Params) : Obj := ⟨(.type "tuple"), .none, (.seq #[(.str (.ofString "name") 282), (.str (.ofString "rows") 283)] 0), #[]⟩
noncomputable def o127 (P : Params) : Obj := ⟨(.type "dict"), .none, (.dict #[⟨(PyData.keyHash P (.ofString "__module__")), (.str (.ofString "__module__") 261), (.str (.ofString "ledgerspeak.items") 252)⟩, ⟨(PyData.keyHash P (.ofString "__firstlineno__")), (.str (.ofString "__firstlineno__") 265), (.int 17 264)⟩, ⟨(PyData.keyHash P (.ofString "__init__")), (.str (.ofString "__init__") 274), (.ref 76)⟩, ⟨(PyData.keyHash P (.ofString "told")), (.str (.ofString "told") 281), (.ref 83)⟩, ⟨(PyData.keyHash P (.ofString "__static_attributes__")), (.str (.ofString "__static_attributes__") 284), (.ref 84)⟩, ⟨(PyData.keyHash P (.ofString "__dict__")), (.str (.ofString "__dict__") 286), (.ref 87)⟩, ⟨(PyData.keyHash P (.ofString "__weakref__")), (.str (.ofString "__weakref__") 288), (.ref 88)⟩, ⟨(PyData.keyHash P (.ofString "__doc__")), (.str (.ofString "__doc__") 289), .none⟩] 4), #[]⟩
noncomputable def o128 (_ : Params) : Obj := ⟨(.type "type"), .none, (.cls ⟨(.ofString "Named"), [(.type "object")], [(.ref 86), (.type "object")], 85, (.ofString "Named"), .true, [], [], .false, .none, .false⟩), #[.none, .none, (.some (.str (.ofString "Named") 254)), (.some (.str (.ofString "Named") 262)), (.some (.builtin "object.__new__")), (.some (.bool .true))]⟩
noncomputable def o129 (_ : Params) : Obj := ⟨(.type "getset_descriptor"), .none, (.fields #[(.str (.ofString "__dict__") 285), (.ref 86), (.builtin "function.__dict__"), (.builtin "function.__dict__#set")]), #[]⟩
noncomputable def o130 (_ : Params) : Obj := ⟨(.type "getset_descriptor"), .none, (.fields #[(.str (.ofString "__weakref__") 287), (.ref 86), (.builtin "ExceptionGroup.__weakref__"), .none]), #[]⟩
noncomputable def o131 (_ : Params) : Obj := ⟨(.type "super"), .none, (.fields #[(.ref 86), (.ref 86), (.ref 86)]), #[]⟩
noncomputable def o132 (_ : Params) : Obj := ⟨(.type "builtin_function_or_method"), .none, (.fields #[(.builtin "object.__init_subclass__"), (.ref 86)]), #[]⟩
noncomputable def o133 (P : Params) : Obj := ⟨(.type "dict"), .none, (.dict #[⟨(PyData.keyHash P (.ofString "__name__")), (.str (.ofString "__name__") 165), (.str (.ofString "ledgerspeak.items") 252)⟩, ⟨(PyData.keyHash P (.ofString "__doc__")), (.str (.ofString "__doc__") 166), .none⟩, ⟨(PyData.keyHash P (.ofString "__package__")), (.str (.ofString "__package__") 167), .none⟩, ⟨(PyData.keyHash P (.ofString "__loader__")), (.str (.ofString "__loader__") 168), (.builtin "__main__.__loader__#opaque")⟩, ⟨(PyData.keyHash P (.ofString "__spec__")), (.str (.ofString "__spec__") 169), .none⟩, ⟨(PyData.keyHash P (.ofString "__annotations__")), (.str (.ofString "__annotations__") 170), (.ref 6)⟩, ⟨(PyData.keyHash P (.ofString "__builtins__")), (.str (.ofString "__builtins__") 171), (.ref 4)⟩, ⟨(PyData.keyHash P (.ofString "__file__")), (.str (.ofString "__file__") 173), (.str (.ofString "/claim/cut.py") 172)⟩, ⟨(PyData.keyHash P (.ofString "__cached__")), (.str (.ofString "__cached__") 174), .none⟩, ⟨(PyData.keyHash P (.ofString "_wall")), (.str (.ofString "_wall") 193), (.ref 21)⟩, ⟨(PyData.keyHash P (.ofString "LedgerError")), (.str (.ofString "LedgerError") 235), (.ref 47)⟩, ⟨(PyData.keyHash P (.ofString "DataFault")), (.str (.ofString "DataFault") 251), (.ref 60)⟩, ⟨(PyData.keyHash P (.ofString "Named")), (.str (.ofString "Named") 291), (.ref 86)⟩, ⟨(PyData.keyHash P (.ofString "Item")), (.str (.ofString "Item") 369), (.ref 133)⟩] 14), #[]⟩
noncomputable def o134 (_ : Params) : Obj := ⟨.none, .none, (.fields #[(.int 1 0), (.int 0 0), (.ref 20), (.int 5 0), (.int 0 0), (.ref 27), (.int 14 0), (.int 0 0), (.ref 56), (.int 17 0), (.int 0 0), (.ref 68), (.int 25 0), (.int 0 0), (.ref 96)]), #[]⟩
noncomputable def o135 (_ : Params) : Obj := ⟨(.type "tuple"), .none, (.seq #[] 0), #[]⟩
noncomputable def o136 (_ : Params) : Obj := ⟨(.type "builtin_function_or_method"), .none, (.fields #[(.builtin "type.__prepare__"), (.type "type")]), #[]⟩
noncomputable def o137 (P : Params) : Obj := ⟨(.type "dict"), .none, (.dict #[⟨(PyData.keyHash P (.ofString "__module__")), (.str (.ofString "__module__") 299), (.str (.ofString "ledgerspeak.items") 252)⟩, ⟨(PyData.keyHash P (.ofString "__qualname__")), (.str (.ofString "__qualname__") 301), (.str (.ofString "Item") 300)⟩, ⟨(PyData.keyHash P (.ofString "__firstlineno__")), (.str (.ofString "__firstlineno__") 303), (.int 25 302)⟩, ⟨(PyData.keyHash P (.ofString "__init__")), (.str (.ofString "__init__") 312), (.ref 104)⟩, ⟨(PyData.keyHash P (.ofString "add")), (.str (.ofString "add") 320), (.ref 111)⟩, ⟨(PyData.keyHash P (.ofString "count")), (.str (.ofString "count") 327), (.ref 118)⟩, ⟨(PyData.keyHash P (.ofString "clauses")), (.str (.ofString "clauses") 336), (.ref 125)⟩, ⟨(PyData.keyHash P (.ofString "told")), (.str (.ofString "told") 342), (.ref 130)⟩, ⟨(PyData.keyHash P (.ofString "__static_attributes__")), (.str (.ofString "__static_attributes__") 362), (.ref 131)⟩] 9), #[]⟩
noncomputable def o138 (_ : Params) : Obj := ⟨(.type "tuple"), .none, (.seq #[] 0), #[]⟩
noncomputable def o139 (_ : Params) : Obj := ⟨.none, .none, (.fields #[(.int 27 0), (.int 4 0), (.ref 103), (.int 48 0), (.int 4 0), (.ref 110), (.int 52 0), (.int 4 0), (.ref 117), (.int 55 0), (.int 4 0), (.ref 124), (.int 60 0), (.int 4 0), (.ref 129)]), #[]⟩
noncomputable def o140 (_ : Params) : Obj := ⟨(.type "code"), .none, (.fields #[(.str (.ofString "Item") 294), (.str (.ofString "Item") 295), (.str (.ofString "/claim/cut.py") 296), (.int 25 0), (.int 0 0), (.int 0 0), (.int 0 0), (.int 0 0), (.ref 94), (.bool .false), (.int 181 0), (.ref 95), .none, .none, .none, .none, (.int 297 0), (.int 25 0), (.str (.ofString "/claim/cut.py") 298)]), #[]⟩
noncomputable def o141 (_ : Params) : Obj := ⟨(.type "frame"), .none, .plain, #[(.some (.ref 96)), (.some (.ref 3)), (.some (.ref 93)), .none, (.some (.str (.ofString "ledgerspeak.items") 252)), .none, (.some (.ref 0))]⟩
noncomputable def o142 (_ : Params) : Obj := ⟨(.type "tuple"), .none, (.seq #[] 0), #[]⟩
noncomputable def o143 (_ : Params) : Obj := ⟨.none, .none, (.fields #[]), #[]⟩
noncomputable def o144 (_ : Params) : Obj := ⟨(.type "tuple"), .none, (.seq #[(.str (.ofString "self") 307), (.str (.ofString "level") 308), (.str (.ofString "name") 309)] 0), #[]⟩
noncomputable def o145 (_ : Params) : Obj := ⟨(.type "tuple"), .none, (.seq #[] 0), #[]⟩
noncomputable def o146 (_ : Params) : Obj := ⟨.none, .none, (.func ⟨(.ofString "__init__"), (.ofString "Item.__init__"), paramsOf (inCls 6 0), .stmts (bodyOf (inCls 6 0)), scopeOf (inCls 6 0), 0, [], .none, .none, .none, .none, .none, .none, .none, 0⟩), #[]⟩
noncomputable def o147 (_ : Params) : Obj := ⟨(.type "code"), .none, (.fields #[(.str (.ofString "__init__") 304), (.str (.ofString "Item.__init__") 305), (.str (.ofString "/claim/cut.py") 306), (.int 27 0), (.int 3 0), (.int 0 0), (.int 0 0), (.int 3 0), (.ref 98), (.bool .true), (.int 181 0), (.ref 99), .none, (.ref 100), (.ref 101), (.ref 102), (.int 310 0), (.int 27 0), (.str (.ofString "/claim/cut.py") 311)]), #[]⟩
noncomputable def o148 (_ : Params) : Obj := ⟨(.type "function"), .none, (.func ⟨(.ofString "__init__"), (.ofString "Item.__init__"), paramsOf (inCls 6 0), .stmts (bodyOf (inCls 6 0)), scopeOf (inCls 6 0), 3, [], .none, .none, .none, (.str (.ofString "ledgerspeak.items") 252), .none, (.ref 103), .none, 0⟩), #[]⟩
noncomputable def o149 (_ : Params) : Obj := ⟨(.type "tuple"), .none, (.seq #[] 0), #[]⟩
noncomputable def o150 (_ : Params) : Obj := ⟨.none, .none, (.fields #[]), #[]⟩
noncomputable def o151 (_ : Params) : Obj := ⟨(.type "tuple"), .none, (.seq #[(.str (.ofString "self") 316), (.str (.ofString "kid") 317)] 0), #[]⟩
noncomputable def o152 (_ : Params) : Obj := ⟨(.type "tuple"), .none, (.seq #[] 0), #[]⟩
noncomputable def o153 (_ : Params) : Obj := ⟨.none, .none, (.func ⟨(.ofString "add"), (.ofString "Item.add"), paramsOf (inCls 6 1), .stmts (bodyOf (inCls 6 1)), scopeOf (inCls 6 1), 0, [], .none, .none, .none, .none, .none, .none, .none, 0⟩), #[]⟩
noncomputable def o154 (_ : Params) : Obj := ⟨(.type "code"), .none, (.fields #[(.str (.ofString "add") 313), (.str (.ofString "Item.add") 314), (.str (.ofString "/claim/cut.py") 315), (.int 48 0), (.int 2 0), (.int 0 0), (.int 0 0), (.int 3 0), (.ref 105), (.bool .true), (.int 181 0), (.ref 106), .none, (.ref 107), (.ref 108), (.ref 109), (.int 318 0), (.int 48 0), (.str (.ofString "/claim/cut.py") 319)]), #[]⟩
noncomputable def o155 (_ : Params) : Obj := ⟨(.type "function"), .none, (.func ⟨(.ofString "add"), (.ofString "Item.add"), paramsOf (inCls 6 1), .stmts (bodyOf (inCls 6 1)), scopeOf (inCls 6 1), 3, [], .none, .none, .none, (.str (.ofString "ledgerspeak.items") 252), .none, (.ref 110), .none, 0⟩), #[]⟩
noncomputable def o156 (_ : Params) : Obj := ⟨(.type "tuple"), .none, (.seq #[] 0), #[]⟩
noncomputable def o157 (_ : Params) : Obj := ⟨.none, .none, (.fields #[]), #[]⟩
noncomputable def o158 (_ : Params) : Obj := ⟨(.type "tuple"), .none, (.seq #[(.str (.ofString "self") 324)] 0), #[]⟩
noncomputable def o159 (_ : Params) : Obj := ⟨(.type "tuple"), .none, (.seq #[] 0), #[]⟩
noncomputable def o160 (_ : Params) : Obj := ⟨.none, .none, (.func ⟨(.ofString "count"), (.ofString "Item.count"), paramsOf (inCls 6 2), .stmts (bodyOf (inCls 6 2)), scopeOf (inCls 6 2), 0, [], .none, .none, .none, .none, .none, .none, .none, 0⟩), #[]⟩
noncomputable def o161 (_ : Params) : Obj := ⟨(.type "code"), .none, (.fields #[(.str (.ofString "count") 321), (.str (.ofString "Item.count") 322), (.str (.ofString "/claim/cut.py") 323), (.int 52 0), (.int 1 0), (.int 0 0), (.int 0 0), (.int 3 0), (.ref 112), (.bool .true), (.int 181 0), (.ref 113), .none, (.ref 114), (.ref 115), (.ref 116), (.int 325 0), (.int 52 0), (.str (.ofString "/claim/cut.py") 326)]), #[]⟩
noncomputable def o162 (_ : Params) : Obj := ⟨(.type "function"), .none, (.func ⟨(.ofString "count"), (.ofString "Item.count"), paramsOf (inCls 6 2), .stmts (bodyOf (inCls 6 2)), scopeOf (inCls 6 2), 3, [], .none, .none, .none, (.str (.ofString "ledgerspeak.items") 252), .none, (.ref 117), .none, 0⟩), #[]⟩
noncomputable def o163 (_ : Params) : Obj := ⟨(.type "tuple"), .none, (.seq #[] 0), #[]⟩
noncomputable def o164 (_ : Params) : Obj := ⟨.none, .none, (.fields #[]), #[]⟩
noncomputable def o165 (_ : Params) : Obj := ⟨(.type "tuple"), .none, (.seq #[(.str (.ofString "self") 331), (.str (.ofString "often") 332), (.str (.ofString "first") 333)] 0), #[]⟩
noncomputable def o166 (_ : Params) : Obj := ⟨(.type "tuple"), .none, (.seq #[] 0), #[]⟩
noncomputable def o167 (_ : Params) : Obj := ⟨.none, .none, (.func ⟨(.ofString "clauses"), (.ofString "Item.clauses"), paramsOf (inCls 6 3), .stmts (bodyOf (inCls 6 3)), scopeOf (inCls 6 3), 0, [], .none, .none, .none, .none, .none, .none, .none, 0⟩), #[]⟩
noncomputable def o168 (_ : Params) : Obj := ⟨(.type "code"), .none, (.fields #[(.str (.ofString "clauses") 328), (.str (.ofString "Item.clauses") 329), (.str (.ofString "/claim/cut.py") 330), (.int 55 0), (.int 1 0), (.int 0 0), (.int 0 0), (.int 3 0), (.ref 119), (.bool .true), (.int 181 0), (.ref 120), .none, (.ref 121), (.ref 122), (.ref 123), (.int 334 0), (.int 55 0), (.str (.ofString "/claim/cut.py") 335)]), #[]⟩
noncomputable def o169 (_ : Params) : Obj := ⟨(.type "function"), .none, (.func ⟨(.ofString "clauses"), (.ofString "Item.clauses"), paramsOf (inCls 6 3), .stmts (bodyOf (inCls 6 3)), scopeOf (inCls 6 3), 3, [], .none, .none, .none, (.str (.ofString "ledgerspeak.items") 252), .none, (.ref 124), .none, 0⟩), #[]⟩
noncomputable def o170 (_ : Params) : Obj := ⟨(.type "tuple"), .none, (.seq #[] 0), #[]⟩
noncomputable def o171 (_ : Params) : Obj := ⟨.none, .none, (.fields #[]), #[]⟩
noncomputable def o172 (_ : Params) : Obj := ⟨.none, .none, (.func ⟨(.ofString "told"), (.ofString "Item.told"), paramsOf (inCls 6 4), .stmts (bodyOf (inCls 6 4)), scopeOf (inCls 6 4), 0, [], .none, .none, .none, .none, .none, .none, .none, 0⟩), #[]⟩
noncomputable def o173 (_ : Params) : Obj := ⟨(.type "code"), .none, (.fields #[(.str (.ofString "told") 337), (.str (.ofString "Item.told") 338), (.str (.ofString "/claim/cut.py") 339), (.int 60 0), (.int 1 0), (.int 0 0), (.int 0 0), (.int 3 0), (.ref 126), (.bool .true), (.int 181 0), (.ref 127), .none, .none, .none, (.ref 128), (.int 340 0), (.int 60 0), (.str (.ofString "/claim/cut.py") 341)]), #[]⟩
noncomputable def o174 (_ : Params) : Obj := ⟨(.type "function"), .none, (.func ⟨(.ofString "told"), (.ofString "Item.told"), paramsOf (inCls 6 4), .stmts (bodyOf (inCls 6 4)), scopeOf (inCls 6 4), 3, [], .none, .none, .none, (.str (.ofString "ledgerspeak.items") 252), .none, (.ref 129), .none, 0⟩), #[]⟩
noncomputable def o175 (_ : Params) : Obj := ⟨(.type "tuple"), .none, (.seq #[(.str (.ofString "base") 343), (.str (.ofString "conditions") 344), (.str (.ofString "is_blank_zero") 345), (.str (.ofString "is_justified") 346), (.str (.ofString "is_separate") 347), (.str (.ofString "kids") 348), (.str (.ofString "level") 349), (.str (.ofString "name") 350), (.str (.ofString "occurs") 351), (.str (.ofString "offset") 352), (.str (.ofString "parent") 353), (.str (.ofString "picture_text") 354), (.str (.ofString "redefines") 355), (.str (.ofString "renames") 356), (.str (.ofString "shape") 357), (.str (.ofString "sign") 358), (.str (.ofString "size") 359), (.str (.ofString "usage") 360), (.str (.ofString "value") 361)] 0), #[]⟩
noncomputable def o176 (P : Params) : Obj := ⟨(.type "dict"), .none, (.dict #[⟨(PyData.keyHash P (.ofString "__module__")), (.str (.ofString "__module__") 299), (.str (.ofString "ledgerspeak.items") 252)⟩, ⟨(PyData.keyHash P (.ofString "__firstlineno__")), (.str (.ofString "__firstlineno__") 303), (.int 25 302)⟩, ⟨(PyData.keyHash P (.ofString "__init__")), (.str (.ofString "__init__") 312), (.ref 104)⟩, ⟨(PyData.keyHash P (.ofString "add")), (.str (.ofString "add") 320), (.ref 111)⟩, ⟨(PyData.keyHash P (.ofString "count")), (.str (.ofString "count") 327), (.ref 118)⟩, ⟨(PyData.keyHash P (.ofString "clauses")), (.str (.ofString "clauses") 336), (.ref 125)⟩, ⟨(PyData.keyHash P (.ofString "told")), (.str (.ofString "told") 342), (.ref 130)⟩, ⟨(PyData.keyHash P (.ofString "__static_attributes__")), (.str (.ofString "__static_attributes__") 362), (.ref 131)⟩, ⟨(PyData.keyHash P (.ofString "__dict__")), (.str (.ofString "__dict__") 364), (.ref 134)⟩, ⟨(PyData.keyHash P (.ofString "__weakref__")), (.str (.ofString "__weakref__") 366), (.ref 135)⟩, ⟨(PyData.keyHash P (.ofString "__doc__")), (.str (.ofString "__doc__") 367), .none⟩] 4), #[]⟩
noncomputable def o177 (_ : Params) : Obj := ⟨(.type "type"), .none, (.cls ⟨(.ofString "Item"), [(.type "object")], [(.ref 133), (.type "object")], 132, (.ofString "Item"), .true, [], [], .false, .none, .false⟩), #[.none, .none, (.some (.str (.ofString "Item") 292)), (.some (.str (.ofString "Item") 300)), (.some (.builtin "object.__new__")), (.some (.bool .true))]⟩
noncomputable def o178 (_ : Params) : Obj := ⟨(.type "getset_descriptor"), .none, (.fields #[(.str (.ofString "__dict__") 363), (.ref 133), (.builtin "function.__dict__"), (.builtin "function.__dict__#set")]), #[]⟩
noncomputable def o179 (_ : Params) : Obj := ⟨(.type "getset_descriptor"), .none, (.fields #[(.str (.ofString "__weakref__") 365), (.ref 133), (.builtin "ExceptionGroup.__weakref__"), .none]), #[]⟩
noncomputable def o180 (_ : Params) : Obj := ⟨(.type "super"), .none, (.fields #[(.ref 133), (.ref 133), (.ref 133)]), #[]⟩
noncomputable def o181 (_ : Params) : Obj := ⟨(.type "builtin_function_or_method"), .none, (.fields #[(.builtin "object.__init_subclass__"), (.ref 133)]), #[]⟩
noncomputable def o182 (P : Params) : Obj := ⟨(.type "dict"), .none, (.dict #[⟨(PyData.keyHash P (.ofString "__name__")), (.str (.ofString "__name__") 165), (.str (.ofString "ledgerspeak.envread") 447)⟩, ⟨(PyData.keyHash P (.ofString "__doc__")), (.str (.ofString "__doc__") 166), .none⟩, ⟨(PyData.keyHash P (.ofString "__package__")), (.str (.ofString "__package__") 167), .none⟩, ⟨(PyData.keyHash P (.ofString "__loader__")), (.str (.ofString "__loader__") 168), (.builtin "__main__.__loader__#opaque")⟩, ⟨(PyData.keyHash P (.ofString "__spec__")), (.str (.ofString "__spec__") 169), .none⟩, ⟨(PyData.keyHash P (.ofString "__annotations__")), (.str (.ofString "__annotations__") 170), (.ref 6)⟩, ⟨(PyData.keyHash P (.ofString "__builtins__")), (.str (.ofString "__builtins__") 171), (.ref 4)⟩, ⟨(PyData.keyHash P (.ofString "__file__")), (.str (.ofString "__file__") 173), (.str (.ofString "/claim/cut.py") 172)⟩, ⟨(PyData.keyHash P (.ofString "__cached__")), (.str (.ofString "__cached__") 174), .none⟩, ⟨(PyData.keyHash P (.ofString "_wall")), (.str (.ofString "_wall") 193), (.ref 21)⟩, ⟨(PyData.keyHash P (.ofString "LedgerError")), (.str (.ofString "LedgerError") 235), (.ref 47)⟩, ⟨(PyData.keyHash P (.ofString "DataFault")), (.str (.ofString "DataFault") 251), (.ref 60)⟩, ⟨(PyData.keyHash P (.ofString "Named")), (.str (.ofString "Named") 291), (.ref 86)⟩, ⟨(PyData.keyHash P (.ofString "Item")), (.str (.ofString "Item") 369), (.ref 133)⟩, ⟨(PyData.keyHash P (.ofString "Data")), (.str (.ofString "Data") 408), (.ref 159)⟩, ⟨(PyData.keyHash P (.ofString "items_under")), (.str (.ofString "items_under") 418), (.ref 170)⟩, ⟨(PyData.keyHash P (.ofString "record_roots")), (.str (.ofString "record_roots") 429), (.ref 177)⟩, ⟨(PyData.keyHash P (.ofString "condition_names")), (.str (.ofString "condition_names") 440), (.ref 184)⟩, ⟨(PyData.keyHash P (.ofString "join_files")), (.str (.ofString "join_files") 446), (.ref 189)⟩] 19), #[]⟩
noncomputable def o183 (_ : Params) : Obj := ⟨.none, .none, (.fields #[(.int 1 0), (.int 0 0), (.ref 20), (.int 5 0), (.int 0 0), (.ref 27), (.int 14 0), (.int 0 0), (.ref 56), (.int 17 0), (.int 0 0), (.ref 68), (.int 25 0), (.int 0 0), (.ref 96), (.int 63 0), (.int 0 0), (.ref 143), (.int 76 0), (.int 0 0), (.ref 169), (.int 85 0), (.int 0 0), (.ref 176), (.int 90 0), (.int 0 0), (.ref 183), (.int 97 0), (.int 0 0), (.ref 188)]), #[]⟩
noncomputable def o184 (_ : Params) : Obj := ⟨(.type "tuple"), .none, (.seq #[] 0), #[]⟩
noncomputable def o185 (_ : Params) : Obj := ⟨(.type "builtin_function_or_method"), .none, (.fields #[(.builtin "type.__prepare__"), (.type "type")]), #[]⟩
noncomputable def o186 (P : Params) : Obj := ⟨(.type "dict"), .none, (.dict #[⟨(PyData.keyHash P (.ofString "__module__")), (.str (.ofString "__module__") 377), (.str (.ofString "ledgerspeak.items") 252)⟩, ⟨(PyData.keyHash P (.ofString "__qualname__")), (.str (.ofString "__qualname__") 379), (.str (.ofString "Data") 378)⟩, ⟨(PyData.keyHash P (.ofString "__firstlineno__")), (.str (.ofString "__firstlineno__") 381), (.int 63 380)⟩, ⟨(PyData.keyHash P (.ofString "__init__")), (.str (.ofString "__init__") 388), (.ref 151)⟩, ⟨(PyData.keyHash P (.ofString "told")), (.str (.ofString "told") 394), (.ref 156)⟩, ⟨(PyData.keyHash P (.ofString "__static_attributes__")), (.str (.ofString "__static_attributes__") 401), (.ref 157)⟩] 6), #[]⟩
noncomputable def o187 (_ : Params) : Obj := ⟨(.type "tuple"), .none, (.seq #[] 0), #[]⟩
noncomputable def o188 (_ : Params) : Obj := ⟨.none, .none, (.fields #[(.int 65 0), (.int 4 0), (.ref 150), (.int 73 0), (.int 4 0), (.ref 155)]), #[]⟩
noncomputable def o189 (_ : Params) : Obj := ⟨(.type "code"), .none, (.fields #[(.str (.ofString "Data") 372), (.str (.ofString "Data") 373), (.str (.ofString "/claim/cut.py") 374), (.int 63 0), (.int 0 0), (.int 0 0), (.int 0 0), (.int 0 0), (.ref 141), (.bool .false), (.int 181 0), (.ref 142), .none, .none, .none, .none, (.int 375 0), (.int 63 0), (.str (.ofString "/claim/cut.py") 376)]), #[]⟩
noncomputable def o190 (_ : Params) : Obj := ⟨(.type "frame"), .none, .plain, #[(.some (.ref 143)), (.some (.ref 3)), (.some (.ref 140)), .none, (.some (.str (.ofString "ledgerspeak.items") 252)), .none, (.some (.ref 0))]⟩
noncomputable def o191 (_ : Params) : Obj := ⟨(.type "tuple"), .none, (.seq #[] 0), #[]⟩
noncomputable def o192 (_ : Params) : Obj := ⟨.none, .none, (.fields #[]), #[]⟩
noncomputable def o193 (_ : Params) : Obj := ⟨(.type "tuple"), .none, (.seq #[(.str (.ofString "self") 385)] 0), #[]⟩
noncomputable def o194 (_ : Params) : Obj := ⟨(.type "tuple"), .none, (.seq #[] 0), #[]⟩
noncomputable def o195 (_ : Params) : Obj := ⟨.none, .none, (.func ⟨(.ofString "__init__"), (.ofString "Data.__init__"), paramsOf (inCls 7 0), .stmts (bodyOf (inCls 7 0)), scopeOf (inCls 7 0), 0, [], .none, .none, .none, .none, .none, .none, .none, 0⟩), #[]⟩
noncomputable def o196 (_ : Params) : Obj := ⟨(.type "code"), .none, (.fields #[(.str (.ofString "__init__") 382), (.str (.ofString "Data.__init__") 383), (.str (.ofString "/claim/cut.py") 384), (.int 65 0), (.int 1 0), (.int 0 0), (.int 0 0), (.int 3 0), (.ref 145), (.bool .true), (.int 181 0), (.ref 146), .none, (.ref 147), (.ref 148), (.ref 149), (.int 386 0), (.int 65 0), (.str (.ofString "/claim/cut.py") 387)]), #[]⟩
noncomputable def o197 (_ : Params) : Obj := ⟨(.type "function"), .none, (.func ⟨(.ofString "__init__"), (.ofString "Data.__init__"), paramsOf (inCls 7 0), .stmts (bodyOf (inCls 7 0)), scopeOf (inCls 7 0), 3, [], .none, .none, .none, (.str (.ofString "ledgerspeak.items") 252), .none, (.ref 150), .none, 0⟩), #[]⟩
noncomputable def o198 (_ : Params) : Obj := ⟨(.type "tuple"), .none, (.seq #[] 0), #[]⟩
noncomputable def o199 (_ : Params) : Obj := ⟨.none, .none, (.fields #[]), #[]⟩
noncomputable def o200 (_ : Params) : Obj := ⟨.none, .none, (.func ⟨(.ofString "told"), (.ofString "Data.told"), paramsOf (inCls 7 1), .stmts (bodyOf (inCls 7 1)), scopeOf (inCls 7 1), 0, [], .none, .none, .none, .none, .none, .none, .none, 0⟩), #[]⟩
noncomputable def o201 (_ : Params) : Obj := ⟨(.type "code"), .none, (.fields #[(.str (.ofString "told") 389), (.str (.ofString "Data.told") 390), (.str (.ofString "/claim/cut.py") 391), (.int 73 0), (.int 1 0), (.int 0 0), (.int 0 0), (.int 3 0), (.ref 152), (.bool .true), (.int 181 0), (.ref 153), .none, .none, .none, (.ref 154), (.int 392 0), (.int 73 0), (.str (.ofString "/claim/cut.py") 393)]), #[]⟩
noncomputable def o202 (_ : Params) : Obj := ⟨(.type "function"), .none, (.func ⟨(.ofString "told"), (.ofString "Data.told"), paramsOf (inCls 7 1), .stmts (bodyOf (inCls 7 1)), scopeOf (inCls 7 1), 3, [], .none, .none, .none, (.str (.ofString "ledgerspeak.items") 252), .none, (.ref 155), .none, 0⟩), #[]⟩
noncomputable def o203 (_ : Params) : Obj := ⟨(.type "tuple"), .none, (.seq #[(.str (.ofString "files") 395), (.str (.ofString "indexes") 396), (.str (.ofString "linkage") 397), (.str (.ofString "size") 398), (.str (.ofString "sorts") 399), (.str (.ofString "working") 400)] 0), #[]⟩
noncomputable def o204 (P : Params) : Obj := ⟨(.type "dict"), .none, (.dict #[⟨(PyData.keyHash P (.ofString "__module__")), (.str (.ofString "__module__") 377), (.str (.ofString "ledgerspeak.items") 252)⟩, ⟨(PyData.keyHash P (.ofString "__firstlineno__")), (.str (.ofString "__firstlineno__") 381), (.int 63 380)⟩, ⟨(PyData.keyHash P (.ofString "__init__")), (.str (.ofString "__init__") 388), (.ref 151)⟩, ⟨(PyData.keyHash P (.ofString "told")), (.str (.ofString "told") 394), (.ref 156)⟩, ⟨(PyData.keyHash P (.ofString "__static_attributes__")), (.str (.ofString "__static_attributes__") 401), (.ref 157)⟩, ⟨(PyData.keyHash P (.ofString "__dict__")), (.str (.ofString "__dict__") 403), (.ref 160)⟩, ⟨(PyData.keyHash P (.ofString "__weakref__")), (.str (.ofString "__weakref__") 405), (.ref 161)⟩, ⟨(PyData.keyHash P (.ofString "__doc__")), (.str (.ofString "__doc__") 406), .none⟩] 4), #[]⟩
noncomputable def o205 (_ : Params) : Obj := ⟨(.type "type"), .none, (.cls ⟨(.ofString "Data"), [(.type "object")], [(.ref 159), (.type "object")], 158, (.ofString "Data"), .true, [], [], .false, .none, .false⟩), #[.none, .none, (.some (.str (.ofString "Data") 370)), (.some (.str (.ofString "Data") 378)), (.some (.builtin "object.__new__")), (.some (.bool .true))]⟩
noncomputable def o206 (_ : Params) : Obj := ⟨(.type "getset_descriptor"), .none, (.fields #[(.str (.ofString "__dict__") 402), (.ref 159), (.builtin "function.__dict__"), (.builtin "function.__dict__#set")]), #[]⟩
noncomputable def o207 (_ : Params) : Obj := ⟨(.type "getset_descriptor"), .none, (.fields #[(.str (.ofString "__weakref__") 404), (.ref 159), (.builtin "ExceptionGroup.__weakref__"), .none]), #[]⟩
noncomputable def o208 (_ : Params) : Obj := ⟨(.type "super"), .none, (.fields #[(.ref 159), (.ref 159), (.ref 159)]), #[]⟩
noncomputable def o209 (_ : Params) : Obj := ⟨(.type "builtin_function_or_method"), .none, (.fields #[(.builtin "object.__init_subclass__"), (.ref 159)]), #[]⟩
noncomputable def o210 (_ : Params) : Obj := ⟨(.type "tuple"), .none, (.seq #[] 0), #[]⟩
noncomputable def o211 (_ : Params) : Obj := ⟨.none, .none, (.fields #[]), #[]⟩
noncomputable def o212 (_ : Params) : Obj := ⟨(.type "tuple"), .none, (.seq #[(.str (.ofString "item") 412), (.str (.ofString "found") 413), (.str (.ofString "line") 414), (.str (.ofString "one") 415)] 0), #[]⟩
noncomputable def o213 (_ : Params) : Obj := ⟨(.type "tuple"), .none, (.seq #[] 0), #[]⟩
noncomputable def o214 (_ : Params) : Obj := ⟨.none, .none, (.func ⟨(.ofString "items_under"), (.ofString "items_under"), paramsOf (topStmt 8), .stmts (bodyOf (topStmt 8)), scopeOf (topStmt 8), 0, [], .none, .none, .none, .none, .none, .none, .none, 0⟩), #[]⟩
noncomputable def o215 (_ : Params) : Obj := ⟨(.type "code"), .none, (.fields #[(.str (.ofString "items_under") 409), (.str (.ofString "items_under") 410), (.str (.ofString "/claim/cut.py") 411), (.int 76 0), (.int 1 0), (.int 0 0), (.int 0 0), (.int 3 0), (.ref 164), (.bool .true), (.int 181 0), (.ref 165), .none, (.ref 166), (.ref 167), (.ref 168), (.int 416 0), (.int 76 0), (.str (.ofString "/claim/cut.py") 417)]), #[]⟩
noncomputable def o216 (_ : Params) : Obj := ⟨(.type "function"), .none, (.func ⟨(.ofString "items_under"), (.ofString "items_under"), paramsOf (topStmt 8), .stmts (bodyOf (topStmt 8)), scopeOf (topStmt 8), 3, [], .none, .none, .none, (.str (.ofString "ledgerspeak.items") 252), .none, (.ref 169), .none, 0⟩), #[]⟩
noncomputable def o217 (_ : Params) : Obj := ⟨(.type "tuple"), .none, (.seq #[] 0), #[]⟩
noncomputable def o218 (_ : Params) : Obj := ⟨.none, .none, (.fields #[]), #[]⟩
noncomputable def o219 (_ : Params) : Obj := ⟨(.type "tuple"), .none, (.seq #[(.str (.ofString "data") 424), (.str (.ofString "found") 425), (.str (.ofString "name") 426)] 0), #[]⟩
noncomputable def o220 (_ : Params) : Obj := ⟨(.type "tuple"), .none, (.seq #[] 0), #[]⟩
noncomputable def o221 (_ : Params) : Obj := ⟨.none, .none, (.func ⟨(.ofString "record_roots"), (.ofString "record_roots"), paramsOf (topStmt 10), .stmts (bodyOf (topStmt 10)), scopeOf (topStmt 10), 0, [], .none, .none, .none, .none, .none, .none, .none, 0⟩), #[]⟩
noncomputable def o222 (_ : Params) : Obj := ⟨(.type "code"), .none, (.fields #[(.str (.ofString "record_roots") 421), (.str (.ofString "record_roots") 422), (.str (.ofString "/claim/cut.py") 423), (.int 85 0), (.int 1 0), (.int 0 0), (.int 0 0), (.int 3 0), (.ref 171), (.bool .true), (.int 181 0), (.ref 172), .none, (.ref 173), (.ref 174), (.ref 175), (.int 427 0), (.int 85 0), (.str (.ofString "/claim/cut.py") 428)]), #[]⟩
noncomputable def o223 (_ : Params) : Obj := ⟨(.type "function"), .none, (.func ⟨(.ofString "record_roots"), (.ofString "record_roots"), paramsOf (topStmt 10), .stmts (bodyOf (topStmt 10)), scopeOf (topStmt 10), 3, [], .none, .none, .none, (.str (.ofString "ledgerspeak.program") 419), .none, (.ref 176), .none, 0⟩), #[]⟩
noncomputable def o224 (_ : Params) : Obj := ⟨(.type "tuple"), .none, (.seq #[] 0), #[]⟩
noncomputable def o225 (_ : Params) : Obj := ⟨.none, .none, (.fields #[]), #[]⟩
noncomputable def o226 (_ : Params) : Obj := ⟨(.type "tuple"), .none, (.seq #[(.str (.ofString "data") 433), (.str (.ofString "found") 434), (.str (.ofString "root") 435), (.str (.ofString "item") 436), (.str (.ofString "named") 437)] 0), #[]⟩
noncomputable def o227 (_ : Params) : Obj := ⟨(.type "tuple"), .none, (.seq #[] 0), #[]⟩
noncomputable def o228 (_ : Params) : Obj := ⟨.none, .none, (.func ⟨(.ofString "condition_names"), (.ofString "condition_names"), paramsOf (topStmt 11), .stmts (bodyOf (topStmt 11)), scopeOf (topStmt 11), 0, [], .none, .none, .none, .none, .none, .none, .none, 0⟩), #[]⟩
noncomputable def o229 (_ : Params) : Obj := ⟨(.type "code"), .none, (.fields #[(.str (.ofString "condition_names") 430), (.str (.ofString "condition_names") 431), (.str (.ofString "/claim/cut.py") 432), (.int 90 0), (.int 1 0), (.int 0 0), (.int 0 0), (.int 3 0), (.ref 178), (.bool .true), (.int 181 0), (.ref 179), .none, (.ref 180), (.ref 181), (.ref 182), (.int 438 0), (.int 90 0), (.str (.ofString "/claim/cut.py") 439)]), #[]⟩
noncomputable def o230 (_ : Params) : Obj := ⟨(.type "function"), .none, (.func ⟨(.ofString "condition_names"), (.ofString "condition_names"), paramsOf (topStmt 11), .stmts (bodyOf (topStmt 11)), scopeOf (topStmt 11), 3, [], .none, .none, .none, (.str (.ofString "ledgerspeak.program") 419), .none, (.ref 183), .none, 0⟩), #[]⟩
noncomputable def o231 (_ : Params) : Obj := ⟨(.type "tuple"), .none, (.seq #[] 0), #[]⟩
noncomputable def o232 (_ : Params) : Obj := ⟨.none, .none, (.fields #[]), #[]⟩
noncomputable def o233 (_ : Params) : Obj := ⟨.none, .none, (.func ⟨(.ofString "join_files"), (.ofString "join_files"), paramsOf (topStmt 12), .stmts (bodyOf (topStmt 12)), scopeOf (topStmt 12), 0, [], .none, .none, .none, .none, .none, .none, .none, 0⟩), #[]⟩
noncomputable def o234 (_ : Params) : Obj := ⟨(.type "code"), .none, (.fields #[(.str (.ofString "join_files") 441), (.str (.ofString "join_files") 442), (.str (.ofString "/claim/cut.py") 443), (.int 97 0), (.int 2 0), (.int 0 0), (.int 0 0), (.int 3 0), (.ref 185), (.bool .true), (.int 181 0), (.ref 186), .none, .none, .none, (.ref 187), (.int 444 0), (.int 97 0), (.str (.ofString "/claim/cut.py") 445)]), #[]⟩
noncomputable def o235 (_ : Params) : Obj := ⟨(.type "function"), .none, (.func ⟨(.ofString "join_files"), (.ofString "join_files"), paramsOf (topStmt 12), .stmts (bodyOf (topStmt 12)), scopeOf (topStmt 12), 3, [], .none, .none, .none, (.str (.ofString "ledgerspeak.program") 419), .none, (.ref 188), .none, 0⟩), #[]⟩
noncomputable def o236 (P : Params) : Obj := ⟨(.type "dict"), .none, (.dict #[⟨(PyData.keyHash P (.ofString "__name__")), (.str (.ofString "__name__") 165), (.str (.ofString "law_og0080_01") 495)⟩, ⟨(PyData.keyHash P (.ofString "__doc__")), (.str (.ofString "__doc__") 166), .none⟩, ⟨(PyData.keyHash P (.ofString "__package__")), (.str (.ofString "__package__") 167), .none⟩, ⟨(PyData.keyHash P (.ofString "__loader__")), (.str (.ofString "__loader__") 168), (.builtin "__main__.__loader__#opaque")⟩, ⟨(PyData.keyHash P (.ofString "__spec__")), (.str (.ofString "__spec__") 169), .none⟩, ⟨(PyData.keyHash P (.ofString "__annotations__")), (.str (.ofString "__annotations__") 170), (.ref 6)⟩, ⟨(PyData.keyHash P (.ofString "__builtins__")), (.str (.ofString "__builtins__") 171), (.ref 4)⟩, ⟨(PyData.keyHash P (.ofString "__file__")), (.str (.ofString "__file__") 173), (.str (.ofString "/claim/cut.py") 172)⟩, ⟨(PyData.keyHash P (.ofString "__cached__")), (.str (.ofString "__cached__") 174), .none⟩, ⟨(PyData.keyHash P (.ofString "_wall")), (.str (.ofString "_wall") 193), (.ref 21)⟩, ⟨(PyData.keyHash P (.ofString "LedgerError")), (.str (.ofString "LedgerError") 235), (.ref 47)⟩, ⟨(PyData.keyHash P (.ofString "DataFault")), (.str (.ofString "DataFault") 251), (.ref 60)⟩, ⟨(PyData.keyHash P (.ofString "Named")), (.str (.ofString "Named") 291), (.ref 86)⟩, ⟨(PyData.keyHash P (.ofString "Item")), (.str (.ofString "Item") 369), (.ref 133)⟩, ⟨(PyData.keyHash P (.ofString "Data")), (.str (.ofString "Data") 408), (.ref 159)⟩, ⟨(PyData.keyHash P (.ofString "items_under")), (.str (.ofString "items_under") 418), (.ref 170)⟩, ⟨(PyData.keyHash P (.ofString "record_roots")), (.str (.ofString "record_roots") 429), (.ref 177)⟩, ⟨(PyData.keyHash P (.ofString "condition_names")), (.str (.ofString "condition_names") 440), (.ref 184)⟩, ⟨(PyData.keyHash P (.ofString "join_files")), (.str (.ofString "join_files") 446), (.ref 189)⟩, ⟨(PyData.keyHash P (.ofString "FileSpec")), (.str (.ofString "FileSpec") 494), (.ref 213)⟩, ⟨(PyData.keyHash P (.ofString "_law_FILES")), (.str (.ofString "_law_FILES") 502), (.ref 218)⟩, ⟨(PyData.keyHash P (.ofString "_law_NAMES")), (.str (.ofString "_law_NAMES") 508), (.ref 219)⟩, ⟨(PyData.keyHash P (.ofString "_law_taker")), (.str (.ofString "_law_taker") 518), (.ref 226)⟩, ⟨(PyData.keyHash P (.ofString "_law_root")), (.str (.ofString "_law_root") 533), (.ref 233)⟩, ⟨(PyData.keyHash P (.ofString "_law_joined")), (.str (.ofString "_law_joined") 539), (.ref 238)⟩] 25), #[]⟩
noncomputable def o237 (_ : Params) : Obj := ⟨.none, .none, (.fields #[(.int 1 0), (.int 0 0), (.ref 20), (.int 5 0), (.int 0 0), (.ref 27), (.int 14 0), (.int 0 0), (.ref 56), (.int 17 0), (.int 0 0), (.ref 68), (.int 25 0), (.int 0 0), (.ref 96), (.int 63 0), (.int 0 0), (.ref 143), (.int 76 0), (.int 0 0), (.ref 169), (.int 85 0), (.int 0 0), (.ref 176), (.int 90 0), (.int 0 0), (.ref 183), (.int 97 0), (.int 0 0), (.ref 188), (.int 107 0), (.int 0 0), (.ref 195), (.int 127 0), (.int 0 0), (.ref 225), (.int 139 0), (.int 0 0), (.ref 232), (.int 152 0), (.int 0 0), (.ref 237)]), #[]⟩
noncomputable def o238 (_ : Params) : Obj := ⟨(.type "tuple"), .none, (.seq #[] 0), #[]⟩
noncomputable def o239 (_ : Params) : Obj := ⟨(.type "builtin_function_or_method"), .none, (.fields #[(.builtin "type.__prepare__"), (.type "type")]), #[]⟩
noncomputable def o240 (P : Params) : Obj := ⟨(.type "dict"), .none, (.dict #[⟨(PyData.keyHash P (.ofString "__module__")), (.str (.ofString "__module__") 456), (.str (.ofString "ledgerspeak.envread") 447)⟩, ⟨(PyData.keyHash P (.ofString "__qualname__")), (.str (.ofString "__qualname__") 458), (.str (.ofString "FileSpec") 457)⟩, ⟨(PyData.keyHash P (.ofString "__firstlineno__")), (.str (.ofString "__firstlineno__") 460), (.int 107 459)⟩, ⟨(PyData.keyHash P (.ofString "__init__")), (.str (.ofString "__init__") 468), (.ref 203)⟩, ⟨(PyData.keyHash P (.ofString "told")), (.str (.ofString "told") 476), (.ref 210)⟩, ⟨(PyData.keyHash P (.ofString "__static_attributes__")), (.str (.ofString "__static_attributes__") 487), (.ref 211)⟩] 6), #[]⟩
noncomputable def o241 (_ : Params) : Obj := ⟨(.type "tuple"), .none, (.seq #[] 0), #[]⟩
noncomputable def o242 (_ : Params) : Obj := ⟨.none, .none, (.fields #[(.int 109 0), (.int 4 0), (.ref 202), (.int 121 0), (.int 4 0), (.ref 209)]), #[]⟩
noncomputable def o243 (_ : Params) : Obj := ⟨(.type "code"), .none, (.fields #[(.str (.ofString "FileSpec") 451), (.str (.ofString "FileSpec") 452), (.str (.ofString "/claim/cut.py") 453), (.int 107 0), (.int 0 0), (.int 0 0), (.int 0 0), (.int 0 0), (.ref 193), (.bool .false), (.int 181 0), (.ref 194), .none, .none, .none, .none, (.int 454 0), (.int 107 0), (.str (.ofString "/claim/cut.py") 455)]), #[]⟩
noncomputable def o244 (_ : Params) : Obj := ⟨(.type "frame"), .none, .plain, #[(.some (.ref 195)), (.some (.ref 3)), (.some (.ref 192)), .none, (.some (.str (.ofString "ledgerspeak.envread") 447)), .none, (.some (.ref 0))]⟩
noncomputable def o245 (_ : Params) : Obj := ⟨(.type "tuple"), .none, (.seq #[] 0), #[]⟩
noncomputable def o246 (_ : Params) : Obj := ⟨.none, .none, (.fields #[]), #[]⟩
noncomputable def o247 (_ : Params) : Obj := ⟨(.type "tuple"), .none, (.seq #[(.str (.ofString "self") 464), (.str (.ofString "name") 465)] 0), #[]⟩
noncomputable def o248 (_ : Params) : Obj := ⟨(.type "tuple"), .none, (.seq #[] 0), #[]⟩
noncomputable def o249 (_ : Params) : Obj := ⟨.none, .none, (.func ⟨(.ofString "__init__"), (.ofString "FileSpec.__init__"), paramsOf (inCls 14 0), .stmts (bodyOf (inCls 14 0)), scopeOf (inCls 14 0), 0, [], .none, .none, .none, .none, .none, .none, .none, 0⟩), #[]⟩
noncomputable def o250 (_ : Params) : Obj := ⟨(.type "code"), .none, (.fields #[(.str (.ofString "__init__") 461), (.str (.ofString "FileSpec.__init__") 462), (.str (.ofString "/claim/cut.py") 463), (.int 109 0), (.int 2 0), (.int 0 0), (.int 0 0), (.int 3 0), (.ref 197), (.bool .true), (.int 181 0), (.ref 198), .none, (.ref 199), (.ref 200), (.ref 201), (.int 466 0), (.int 109 0), (.str (.ofString "/claim/cut.py") 467)]), #[]⟩
noncomputable def o251 (_ : Params) : Obj := ⟨(.type "function"), .none, (.func ⟨(.ofString "__init__"), (.ofString "FileSpec.__init__"), paramsOf (inCls 14 0), .stmts (bodyOf (inCls 14 0)), scopeOf (inCls 14 0), 3, [], .none, .none, .none, (.str (.ofString "ledgerspeak.envread") 447), .none, (.ref 202), .none, 0⟩), #[]⟩
noncomputable def o252 (_ : Params) : Obj := ⟨(.type "tuple"), .none, (.seq #[] 0), #[]⟩
noncomputable def o253 (_ : Params) : Obj := ⟨.none, .none, (.fields #[]), #[]⟩
noncomputable def o254 (_ : Params) : Obj := ⟨(.type "tuple"), .none, (.seq #[(.str (.ofString "self") 472), (.str (.ofString "keys") 473)] 0), #[]⟩
noncomputable def o255 (_ : Params) : Obj := ⟨(.type "tuple"), .none, (.seq #[] 0), #[]⟩
noncomputable def o256 (_ : Params) : Obj := ⟨.none, .none, (.func ⟨(.ofString "told"), (.ofString "FileSpec.told"), paramsOf (inCls 14 1), .stmts (bodyOf (inCls 14 1)), scopeOf (inCls 14 1), 0, [], .none, .none, .none, .none, .none, .none, .none, 0⟩), #[]⟩
noncomputable def o257 (_ : Params) : Obj := ⟨(.type "code"), .none, (.fields #[(.str (.ofString "told") 469), (.str (.ofString "FileSpec.told") 470), (.str (.ofString "/claim/cut.py") 471), (.int 121 0), (.int 1 0), (.int 0 0), (.int 0 0), (.int 3 0), (.ref 204), (.bool .true), (.int 181 0), (.ref 205), .none, (.ref 206), (.ref 207), (.ref 208), (.int 474 0), (.int 121 0), (.str (.ofString "/claim/cut.py") 475)]), #[]⟩
noncomputable def o258 (_ : Params) : Obj := ⟨(.type "function"), .none, (.func ⟨(.ofString "told"), (.ofString "FileSpec.told"), paramsOf (inCls 14 1), .stmts (bodyOf (inCls 14 1)), scopeOf (inCls 14 1), 3, [], .none, .none, .none, (.str (.ofString "ledgerspeak.envread") 447), .none, (.ref 209), .none, 0⟩), #[]⟩
noncomputable def o259 (_ : Params) : Obj := ⟨(.type "tuple"), .none, (.seq #[(.str (.ofString "access") 477), (.str (.ofString "alternates") 478), (.str (.ofString "is_sort") 479), (.str (.ofString "key") 480), (.str (.ofString "name") 481), (.str (.ofString "organization") 482), (.str (.ofString "path") 483), (.str (.ofString "records") 484), (.str (.ofString "relative_key") 485), (.str (.ofString "status") 486)] 0), #[]⟩
noncomputable def o260 (P : Params) : Obj := ⟨(.type "dict"), .none, (.dict #[⟨(PyData.keyHash P (.ofString "__module__")), (.str (.ofString "__module__") 456), (.str (.ofString "ledgerspeak.envread") 447)⟩, ⟨(PyData.keyHash P (.ofString "__firstlineno__")), (.str (.ofString "__firstlineno__") 460), (.int 107 459)⟩, ⟨(PyData.keyHash P (.ofString "__init__")), (.str (.ofString "__init__") 468), (.ref 203)⟩, ⟨(PyData.keyHash P (.ofString "told")), (.str (.ofString "told") 476), (.ref 210)⟩, ⟨(PyData.keyHash P (.ofString "__static_attributes__")), (.str (.ofString "__static_attributes__") 487), (.ref 211)⟩, ⟨(PyData.keyHash P (.ofString "__dict__")), (.str (.ofString "__dict__") 489), (.ref 214)⟩, ⟨(PyData.keyHash P (.ofString "__weakref__")), (.str (.ofString "__weakref__") 491), (.ref 215)⟩, ⟨(PyData.keyHash P (.ofString "__doc__")), (.str (.ofString "__doc__") 492), .none⟩] 4), #[]⟩
noncomputable def o261 (_ : Params) : Obj := ⟨(.type "type"), .none, (.cls ⟨(.ofString "FileSpec"), [(.type "object")], [(.ref 213), (.type "object")], 212, (.ofString "FileSpec"), .true, [], [], .false, .none, .false⟩), #[.none, .none, (.some (.str (.ofString "FileSpec") 449)), (.some (.str (.ofString "FileSpec") 457)), (.some (.builtin "object.__new__")), (.some (.bool .true))]⟩
noncomputable def o262 (_ : Params) : Obj := ⟨(.type "getset_descriptor"), .none, (.fields #[(.str (.ofString "__dict__") 488), (.ref 213), (.builtin "function.__dict__"), (.builtin "function.__dict__#set")]), #[]⟩
noncomputable def o263 (_ : Params) : Obj := ⟨(.type "getset_descriptor"), .none, (.fields #[(.str (.ofString "__weakref__") 490), (.ref 213), (.builtin "ExceptionGroup.__weakref__"), .none]), #[]⟩
noncomputable def o264 (_ : Params) : Obj := ⟨(.type "super"), .none, (.fields #[(.ref 213), (.ref 213), (.ref 213)]), #[]⟩
noncomputable def o265 (_ : Params) : Obj := ⟨(.type "builtin_function_or_method"), .none, (.fields #[(.builtin "object.__init_subclass__"), (.ref 213)]), #[]⟩
noncomputable def o266 (_ : Params) : Obj := ⟨(.type "tuple"), .none, (.seq #[(.str (.ofString "A") 497), (.str (.ofString "B-FILE") 498), (.str (.ofString "C2") 499), (.str (.ofString "D") 500), (.str (.ofString "E-E") 501)] 0), #[]⟩
noncomputable def o267 (_ : Params) : Obj := ⟨(.type "tuple"), .none, (.seq #[(.str (.ofString "IS-ONE") 503), (.str (.ofString "IS-TWO") 504), (.str (.ofString "IS-THREE") 505), (.str (.ofString "IS-FOUR") 506), (.str (.ofString "IS-FIVE") 507)] 0), #[]⟩
noncomputable def o268 (_ : Params) : Obj := ⟨(.type "tuple"), .none, (.seq #[] 0), #[]⟩
noncomputable def o269 (_ : Params) : Obj := ⟨.none, .none, (.fields #[]), #[]⟩
noncomputable def o270 (_ : Params) : Obj := ⟨(.type "tuple"), .none, (.seq #[(.str (.ofString "script") 512), (.str (.ofString "take") 513)] 0), #[]⟩
noncomputable def o271 (_ : Params) : Obj := ⟨(.type "tuple"), .none, (.seq #[(.str (.ofString "cells") 514), (.str (.ofString "place") 515)] 0), #[]⟩
noncomputable def o272 (_ : Params) : Obj := ⟨.none, .none, (.func ⟨(.ofString "_law_taker"), (.ofString "_law_taker"), paramsOf (topStmt 18), .stmts (bodyOf (topStmt 18)), scopeOf (topStmt 18), 0, [], .none, .none, .none, .none, .none, .none, .none, 0⟩), #[]⟩
noncomputable def o273 (_ : Params) : Obj := ⟨(.type "code"), .none, (.fields #[(.str (.ofString "_law_taker") 509), (.str (.ofString "_law_taker") 510), (.str (.ofString "/claim/cut.py") 511), (.int 127 0), (.int 1 0), (.int 0 0), (.int 0 0), (.int 3 0), (.ref 220), (.bool .true), (.int 181 0), (.ref 221), .none, (.ref 222), (.ref 223), (.ref 224), (.int 516 0), (.int 127 0), (.str (.ofString "/claim/cut.py") 517)]), #[]⟩
noncomputable def o274 (_ : Params) : Obj := ⟨(.type "function"), .none, (.func ⟨(.ofString "_law_taker"), (.ofString "_law_taker"), paramsOf (topStmt 18), .stmts (bodyOf (topStmt 18)), scopeOf (topStmt 18), 3, [], .none, .none, .none, (.str (.ofString "law_og0080_01") 495), .none, (.ref 225), .none, 0⟩), #[]⟩
noncomputable def o275 (_ : Params) : Obj := ⟨(.type "tuple"), .none, (.seq #[] 0), #[]⟩
noncomputable def o276 (_ : Params) : Obj := ⟨.none, .none, (.fields #[]), #[]⟩
noncomputable def o277 (_ : Params) : Obj := ⟨(.type "tuple"), .none, (.seq #[(.str (.ofString "take") 522), (.str (.ofString "name") 523), (.str (.ofString "found") 524), (.str (.ofString "root") 525), (.str (.ofString "line") 526), (.str (.ofString "turn") 527), (.str (.ofString "below") 528), (.str (.ofString "one") 529), (.str (.ofString "word") 530)] 0), #[]⟩
noncomputable def o278 (_ : Params) : Obj := ⟨(.type "tuple"), .none, (.seq #[] 0), #[]⟩
noncomputable def o279 (_ : Params) : Obj := ⟨.none, .none, (.func ⟨(.ofString "_law_root"), (.ofString "_law_root"), paramsOf (topStmt 19), .stmts (bodyOf (topStmt 19)), scopeOf (topStmt 19), 0, [], .none, .none, .none, .none, .none, .none, .none, 0⟩), #[]⟩
noncomputable def o280 (_ : Params) : Obj := ⟨(.type "code"), .none, (.fields #[(.str (.ofString "_law_root") 519), (.str (.ofString "_law_root") 520), (.str (.ofString "/claim/cut.py") 521), (.int 139 0), (.int 3 0), (.int 0 0), (.int 0 0), (.int 3 0), (.ref 227), (.bool .true), (.int 181 0), (.ref 228), .none, (.ref 229), (.ref 230), (.ref 231), (.int 531 0), (.int 139 0), (.str (.ofString "/claim/cut.py") 532)]), #[]⟩
noncomputable def o281 (_ : Params) : Obj := ⟨(.type "function"), .none, (.func ⟨(.ofString "_law_root"), (.ofString "_law_root"), paramsOf (topStmt 19), .stmts (bodyOf (topStmt 19)), scopeOf (topStmt 19), 3, [], .none, .none, .none, (.str (.ofString "law_og0080_01") 495), .none, (.ref 232), .none, 0⟩), #[]⟩
noncomputable def o282 (_ : Params) : Obj := ⟨(.type "tuple"), .none, (.seq #[] 0), #[]⟩
noncomputable def o283 (_ : Params) : Obj := ⟨.none, .none, (.fields #[]), #[]⟩
noncomputable def o284 (_ : Params) : Obj := ⟨.none, .none, (.func ⟨(.ofString "_law_joined"), (.ofString "_law_joined"), paramsOf (topStmt 20), .stmts (bodyOf (topStmt 20)), scopeOf (topStmt 20), 0, [], .none, .none, .none, .none, .none, .none, .none, 0⟩), #[]⟩
noncomputable def o285 (_ : Params) : Obj := ⟨(.type "code"), .none, (.fields #[(.str (.ofString "_law_joined") 534), (.str (.ofString "_law_joined") 535), (.str (.ofString "/claim/cut.py") 536), (.int 152 0), (.int 2 0), (.int 0 0), (.int 0 0), (.int 3 0), (.ref 234), (.bool .true), (.int 181 0), (.ref 235), .none, .none, .none, (.ref 236), (.int 537 0), (.int 152 0), (.str (.ofString "/claim/cut.py") 538)]), #[]⟩
noncomputable def o286 (_ : Params) : Obj := ⟨(.type "function"), .none, (.func ⟨(.ofString "_law_joined"), (.ofString "_law_joined"), paramsOf (topStmt 20), .stmts (bodyOf (topStmt 20)), scopeOf (topStmt 20), 3, [], .none, .none, .none, (.str (.ofString "law_og0080_01") 495), .none, (.ref 237), .none, 0⟩), #[]⟩
noncomputable def o287 (P : Params) : Obj := ⟨(.type "dict"), .none, (.dict #[⟨(PyData.keyHash P (.ofString "__name__")), (.str (.ofString "__name__") 165), (.str (.ofString "law_og0080_01") 495)⟩, ⟨(PyData.keyHash P (.ofString "__doc__")), (.str (.ofString "__doc__") 166), .none⟩, ⟨(PyData.keyHash P (.ofString "__package__")), (.str (.ofString "__package__") 167), .none⟩, ⟨(PyData.keyHash P (.ofString "__loader__")), (.str (.ofString "__loader__") 168), (.builtin "__main__.__loader__#opaque")⟩, ⟨(PyData.keyHash P (.ofString "__spec__")), (.str (.ofString "__spec__") 169), .none⟩, ⟨(PyData.keyHash P (.ofString "__annotations__")), (.str (.ofString "__annotations__") 170), (.ref 6)⟩, ⟨(PyData.keyHash P (.ofString "__builtins__")), (.str (.ofString "__builtins__") 171), (.ref 4)⟩, ⟨(PyData.keyHash P (.ofString "__file__")), (.str (.ofString "__file__") 173), (.str (.ofString "/claim/cut.py") 172)⟩, ⟨(PyData.keyHash P (.ofString "__cached__")), (.str (.ofString "__cached__") 174), .none⟩, ⟨(PyData.keyHash P (.ofString "_wall")), (.str (.ofString "_wall") 193), (.ref 21)⟩, ⟨(PyData.keyHash P (.ofString "LedgerError")), (.str (.ofString "LedgerError") 235), (.ref 47)⟩, ⟨(PyData.keyHash P (.ofString "DataFault")), (.str (.ofString "DataFault") 251), (.ref 60)⟩, ⟨(PyData.keyHash P (.ofString "Named")), (.str (.ofString "Named") 291), (.ref 86)⟩, ⟨(PyData.keyHash P (.ofString "Item")), (.str (.ofString "Item") 369), (.ref 133)⟩, ⟨(PyData.keyHash P (.ofString "Data")), (.str (.ofString "Data") 408), (.ref 159)⟩, ⟨(PyData.keyHash P (.ofString "items_under")), (.str (.ofString "items_under") 418), (.ref 170)⟩, ⟨(PyData.keyHash P (.ofString "record_roots")), (.str (.ofString "record_roots") 429), (.ref 177)⟩, ⟨(PyData.keyHash P (.ofString "condition_names")), (.str (.ofString "condition_names") 440), (.ref 184)⟩, ⟨(PyData.keyHash P (.ofString "join_files")), (.str (.ofString "join_files") 446), (.ref 189)⟩, ⟨(PyData.keyHash P (.ofString "FileSpec")), (.str (.ofString "FileSpec") 494), (.ref 213)⟩, ⟨(PyData.keyHash P (.ofString "_law_FILES")), (.str (.ofString "_law_FILES") 502), (.ref 218)⟩, ⟨(PyData.keyHash P (.ofString "_law_NAMES")), (.str (.ofString "_law_NAMES") 508), (.ref 219)⟩, ⟨(PyData.keyHash P (.ofString "_law_taker")), (.str (.ofString "_law_taker") 518), (.ref 226)⟩, ⟨(PyData.keyHash P (.ofString "_law_root")), (.str (.ofString "_law_root") 533), (.ref 233)⟩, ⟨(PyData.keyHash P (.ofString "_law_joined")), (.str (.ofString "_law_joined") 539), (.ref 238)⟩, ⟨(PyData.keyHash P (.ofString "_law_data")), (.str (.ofString "_law_data") 549), (.ref 245)⟩, ⟨(PyData.keyHash P (.ofString "_law_written_right")), (.str (.ofString "_law_written_right") 558), (.ref 252)⟩, ⟨(PyData.keyHash P (.ofString "law")), (.str (.ofString "law") 564), (.ref 257)⟩] 28), #[]⟩
noncomputable def o288 (_ : Params) : Obj := ⟨.none, .none, (.fields #[(.int 1 0), (.int 0 0), (.ref 20), (.int 5 0), (.int 0 0), (.ref 27), (.int 14 0), (.int 0 0), (.ref 56), (.int 17 0), (.int 0 0), (.ref 68), (.int 25 0), (.int 0 0), (.ref 96), (.int 63 0), (.int 0 0), (.ref 143), (.int 76 0), (.int 0 0), (.ref 169), (.int 85 0), (.int 0 0), (.ref 176), (.int 90 0), (.int 0 0), (.ref 183), (.int 97 0), (.int 0 0), (.ref 188), (.int 107 0), (.int 0 0), (.ref 195), (.int 127 0), (.int 0 0), (.ref 225), (.int 139 0), (.int 0 0), (.ref 232), (.int 152 0), (.int 0 0), (.ref 237), (.int 158 0), (.int 0 0), (.ref 244), (.int 165 0), (.int 0 0), (.ref 251), (.int 182 0), (.int 0 0), (.ref 256)]), #[]⟩
noncomputable def o289 (_ : Params) : Obj := ⟨(.type "tuple"), .none, (.seq #[] 0), #[]⟩
noncomputable def o290 (_ : Params) : Obj := ⟨.none, .none, (.fields #[]), #[]⟩
noncomputable def o291 (_ : Params) : Obj := ⟨(.type "tuple"), .none, (.seq #[(.str (.ofString "take") 543), (.str (.ofString "found") 544), (.str (.ofString "data") 545), (.str (.ofString "turn") 546)] 0), #[]⟩
noncomputable def o292 (_ : Params) : Obj := ⟨(.type "tuple"), .none, (.seq #[] 0), #[]⟩
noncomputable def o293 (_ : Params) : Obj := ⟨.none, .none, (.func ⟨(.ofString "_law_data"), (.ofString "_law_data"), paramsOf (topStmt 21), .stmts (bodyOf (topStmt 21)), scopeOf (topStmt 21), 0, [], .none, .none, .none, .none, .none, .none, .none, 0⟩), #[]⟩
noncomputable def o294 (_ : Params) : Obj := ⟨(.type "code"), .none, (.fields #[(.str (.ofString "_law_data") 540), (.str (.ofString "_law_data") 541), (.str (.ofString "/claim/cut.py") 542), (.int 158 0), (.int 2 0), (.int 0 0), (.int 0 0), (.int 3 0), (.ref 239), (.bool .true), (.int 181 0), (.ref 240), .none, (.ref 241), (.ref 242), (.ref 243), (.int 547 0), (.int 158 0), (.str (.ofString "/claim/cut.py") 548)]), #[]⟩
noncomputable def o295 (_ : Params) : Obj := ⟨(.type "function"), .none, (.func ⟨(.ofString "_law_data"), (.ofString "_law_data"), paramsOf (topStmt 21), .stmts (bodyOf (topStmt 21)), scopeOf (topStmt 21), 3, [], .none, .none, .none, (.str (.ofString "law_og0080_01") 495), .none, (.ref 244), .none, 0⟩), #[]⟩
noncomputable def o296 (_ : Params) : Obj := ⟨(.type "tuple"), .none, (.seq #[] 0), #[]⟩
noncomputable def o297 (_ : Params) : Obj := ⟨.none, .none, (.fields #[]), #[]⟩
noncomputable def o298 (_ : Params) : Obj := ⟨(.type "tuple"), .none, (.seq #[(.str (.ofString "data") 553), (.str (.ofString "below") 554), (.str (.ofString "deep") 555)] 0), #[]⟩
noncomputable def o299 (_ : Params) : Obj := ⟨(.type "tuple"), .none, (.seq #[] 0), #[]⟩
noncomputable def o300 (_ : Params) : Obj := ⟨.none, .none, (.func ⟨(.ofString "_law_written_right"), (.ofString "_law_written_right"), paramsOf (topStmt 22), .stmts (bodyOf (topStmt 22)), scopeOf (topStmt 22), 0, [], .none, .none, .none, .none, .none, .none, .none, 0⟩), #[]⟩
noncomputable def o301 (_ : Params) : Obj := ⟨(.type "code"), .none, (.fields #[(.str (.ofString "_law_written_right") 550), (.str (.ofString "_law_written_right") 551), (.str (.ofString "/claim/cut.py") 552), (.int 165 0), (.int 0 0), (.int 0 0), (.int 0 0), (.int 3 0), (.ref 246), (.bool .true), (.int 181 0), (.ref 247), .none, (.ref 248), (.ref 249), (.ref 250), (.int 556 0), (.int 165 0), (.str (.ofString "/claim/cut.py") 557)]), #[]⟩
noncomputable def o302 (_ : Params) : Obj := ⟨(.type "function"), .none, (.func ⟨(.ofString "_law_written_right"), (.ofString "_law_written_right"), paramsOf (topStmt 22), .stmts (bodyOf (topStmt 22)), scopeOf (topStmt 22), 3, [], .none, .none, .none, (.str (.ofString "law_og0080_01") 495), .none, (.ref 251), .none, 0⟩), #[]⟩
noncomputable def o303 (_ : Params) : Obj := ⟨(.type "tuple"), .none, (.seq #[] 0), #[]⟩
noncomputable def o304 (_ : Params) : Obj := ⟨.none, .none, (.fields #[]), #[]⟩
noncomputable def o305 (_ : Params) : Obj := ⟨.none, .none, (.func ⟨(.ofString "law"), (.ofString "law"), paramsOf (topStmt 23), .stmts (bodyOf (topStmt 23)), scopeOf (topStmt 23), 0, [], .none, .none, .none, .none, .none, .none, .none, 0⟩), #[]⟩
noncomputable def o306 (_ : Params) : Obj := ⟨(.type "code"), .none, (.fields #[(.str (.ofString "law") 559), (.str (.ofString "law") 560), (.str (.ofString "/claim/cut.py") 561), (.int 182 0), (.int 1 0), (.int 0 0), (.int 0 0), (.int 3 0), (.ref 253), (.bool .true), (.int 181 0), (.ref 254), .none, .none, .none, (.ref 255), (.int 562 0), (.int 182 0), (.str (.ofString "/claim/cut.py") 563)]), #[]⟩
noncomputable def o307 (_ : Params) : Obj := ⟨(.type "function"), .none, (.func ⟨(.ofString "law"), (.ofString "law"), paramsOf (topStmt 23), .stmts (bodyOf (topStmt 23)), scopeOf (topStmt 23), 3, [], .none, .none, .none, (.str (.ofString "law_og0080_01") 495), .none, (.ref 256), .none, 0⟩), #[]⟩
noncomputable def heap46 (P : Params) : Heap := ⟨#[(boot_o_0 P), (boot_o_1 P), (boot_o_2 P), (boot_o_3 P), (boot_o_4 P), (boot_o_5 P), (boot_o_6 P), (boot_o_7 P), (boot_o_8 P), (boot_o_9 P), (boot_o_10 P), (o43 P), (o44 P), (o45 P), (o46 P)], ⟨[], [], [], 0, [], [], .false, #[], [], 0, .false, .false, .false, 0, [2000, 10, 10], .false, 0, .true, [], [], 0, .false⟩⟩
noncomputable def heap308 (P : Params) : Heap := ⟨#[(boot_o_0 P), (boot_o_1 P), (o49 P), (o287 P), (boot_o_4 P), (boot_o_5 P), (boot_o_6 P), (boot_o_7 P), (boot_o_8 P), (boot_o_9 P), (boot_o_10 P), (o43 P), (o288 P), (o45 P), (o46 P), (o52 P), (o53 P), (o54 P), (o55 P), (o56 P), (o57 P), (o58 P), (o59 P), (o60 P), (o61 P), (o62 P), (o63 P), (o64 P), (o65 P), (o66 P), (o67 P), (o68 P), (o69 P), (o70 P), (o71 P), (o72 P), (o73 P), (o74 P), (o75 P), (o76 P), (o77 P), (o78 P), (o79 P), (o80 P), (o81 P), (o82 P), (o83 P), (o90 P), (o85 P), (o86 P), (o87 P), (o91 P), (o92 P), (o93 P), (o94 P), (o95 P), (o96 P), (o97 P), (o98 P), (o99 P), (o100 P), (o101 P), (o102 P), (o105 P), (o106 P), (o107 P), (o108 P), (o109 P), (o110 P), (o111 P), (o112 P), (o113 P), (o114 P), (o115 P), (o116 P), (o117 P), (o118 P), (o119 P), (o120 P), (o121 P), (o122 P), (o123 P), (o124 P), (o125 P), (o126 P), (o127 P), (o128 P), (o129 P), (o130 P), (o131 P), (o132 P), (o135 P), (o136 P), (o137 P), (o138 P), (o139 P), (o140 P), (o141 P), (o142 P), (o143 P), (o144 P), (o145 P), (o146 P), (o147 P), (o148 P), (o149 P), (o150 P), (o151 P), (o152 P), (o153 P), (o154 P), (o155 P), (o156 P), (o157 P), (o158 P), (o159 P), (o160 P), (o161 P), (o162 P), (o163 P), (o164 P), (o165 P), (o166 P), (o167 P), (o168 P), (o169 P), (o170 P), (o171 P), (o172 P), (o173 P), (o174 P), (o175 P), (o176 P), (o177 P), (o178 P), (o179 P), (o180 P), (o181 P), (o184 P), (o185 P), (o186 P), (o187 P), (o188 P), (o189 P), (o190 P), (o191 P), (o192 P), (o193 P), (o194 P), (o195 P), (o196 P), (o197 P), (o198 P), (o199 P), (o200 P), (o201 P), (o202 P), (o203 P), (o204 P), (o205 P), (o206 P), (o207 P), (o208 P), (o209 P), (o210 P), (o211 P), (o212 P), (o213 P), (o214 P), (o215 P), (o216 P), (o217 P), (o218 P), (o219 P), (o220 P), (o221 P), (o222 P), (o223 P), (o224 P), (o225 P), (o226 P), (o227 P), (o228 P), (o229 P), (o230 P), (o231 P), (o232 P), (o233 P), (o234 P), (o235 P), (o238 P), (o239 P), (o240 P), (o241 P), (o242 P), (o243 P), (o244 P), (o245 P), (o246 P), (o247 P), (o248 P), (o249 P), (o250 P), (o251 P), (o252 P), (o253 P), (o254 P), (o255 P), (o256 P), (o257 P), (o258 P), (o259 P), (o260 P), (o261 P), (o262 P), (o263 P), (o264 P), (o265 P), (o266 P), (o267 P), (o268 P), (o269 P), (o270 P), (o271 P), (o272 P), (o273 P), (o274 P), (o275 P), (o276 P), (o277 P), (o278 P), (o279 P), (o280 P), (o281 P), (o282 P), (o283 P), (o284 P), (o285 P), (o286 P), (o289 P), (o290 P), (o291 P), (o292 P), (o293 P), (o294 P), (o295 P), (o296 P), (o297 P), (o298 P), (o299 P), (o300 P), (o301 P), (o302 P), (o303 P), (o304 P), (o305 P), (o306 P), (o307 P)], ⟨[], [], [], 0, [], [], .false, #[], [], 0, .false, .false, .false, 0, [2000, 10, 10], .false, 0, .true, [], [], 0, .false⟩⟩
noncomputable def tree47 (P : Params) : BT := (.node (boot_o_0 P) (.node (boot_o_1 P) (.node (boot_o_3 P) (.node (boot_o_7 P) .nil .nil) (.node (o43 P) .nil .nil)) (.node (boot_o_5 P) (.node (boot_o_9 P) .nil .nil) (.node (o45 P) .nil .nil))) (.node (boot_o_2 P) (.node (boot_o_4 P) (.node (boot_o_8 P) .nil .nil) (.node (o44 P) .nil .nil)) (.node (boot_o_6 P) (.node (boot_o_10 P) .nil .nil) (.node (o46 P) .nil .nil))))
noncomputable def tree87 (P : Params) : BT := (.node (boot_o_0 P) (.node (boot_o_1 P) (.node (o50 P) (.node (boot_o_7 P) (.node (o52 P) (.node (o68 P) .nil .nil) (.node (o84 P) .nil .nil)) (.node (o60 P) (.node (o76 P) .nil .nil) .nil)) (.node (o43 P) (.node (o56 P) (.node (o72 P) .nil .nil) .nil) (.node (o64 P) (.node (o80 P) .nil .nil) .nil))) (.node (boot_o_5 P) (.node (boot_o_9 P) (.node (o54 P) (.node (o70 P) .nil .nil) (.node (o86 P) .nil .nil)) (.node (o62 P) (.node (o78 P) .nil .nil) .nil)) (.node (o45 P) (.node (o58 P) (.node (o74 P) .nil .nil) .nil) (.node (o66 P) (.node (o82 P) .nil .nil) .nil)))) (.node (o49 P) (.node (boot_o_4 P) (.node (boot_o_8 P) (.node (o53 P) (.node (o69 P) .nil .nil) (.node (o85 P) .nil .nil)) (.node (o61 P) (.node (o77 P) .nil .nil) .nil)) (.node (o51 P) (.node (o57 P) (.node (o73 P) .nil .nil) .nil) (.node (o65 P) (.node (o81 P) .nil .nil) .nil))) (.node (boot_o_6 P) (.node (boot_o_10 P) (.node (o55 P) (.node (o71 P) .nil .nil) (.node (o87 P) .nil .nil)) (.node (o63 P) (.node (o79 P) .nil .nil) .nil)) (.node (o46 P) (.node (o59 P) (.node (o75 P) .nil .nil) .nil) (.node (o67 P) (.node (o83 P) .nil .nil) .nil)))))
noncomputable def tree102 (P : Params) : BT := (.node (boot_o_0 P) (.node (boot_o_1 P) (.node (o88 P) (.node (boot_o_7 P) (.node (o52 P) (.node (o68 P) .nil .nil) (.node (o90 P) .nil .nil)) (.node (o60 P) (.node (o76 P) .nil .nil) (.node (o95 P) .nil .nil))) (.node (o43 P) (.node (o56 P) (.node (o72 P) .nil .nil) (.node (o91 P) .nil .nil)) (.node (o64 P) (.node (o80 P) .nil .nil) (.node (o99 P) .nil .nil)))) (.node (boot_o_5 P) (.node (boot_o_9 P) (.node (o54 P) (.node (o70 P) .nil .nil) (.node (o86 P) .nil .nil)) (.node (o62 P) (.node (o78 P) .nil .nil) (.node (o97 P) .nil .nil))) (.node (o45 P) (.node (o58 P) (.node (o74 P) .nil .nil) (.node (o93 P) .nil .nil)) (.node (o66 P) (.node (o82 P) .nil .nil) (.node (o101 P) .nil .nil))))) (.node (o49 P) (.node (boot_o_4 P) (.node (boot_o_8 P) (.node (o53 P) (.node (o69 P) .nil .nil) (.node (o85 P) .nil .nil)) (.node (o61 P) (.node (o77 P) .nil .nil) (.node (o96 P) .nil .nil))) (.node (o89 P) (.node (o57 P) (.node (o73 P) .nil .nil) (.node (o92 P) .nil .nil)) (.node (o65 P) (.node (o81 P) .nil .nil) (.node (o100 P) .nil .nil)))) (.node (boot_o_6 P) (.node (boot_o_10 P) (.node (o55 P) (.node (o71 P) .nil .nil) (.node (o87 P) .nil .nil)) (.node (o63 P) (.node (o79 P) .nil .nil) (.node (o98 P) .nil .nil))) (.node (o46 P) (.node (o59 P) (.node (o75 P) .nil .nil) (.node (o94 P) .nil .nil)) (.node (o67 P) (.node (o83 P) .nil .nil) (.node (o102 P) .nil .nil))))))
noncomputable def tree132 (P : Params) : BT := (.node (boot_o_0 P) (.node (boot_o_1 P) (.node (o103 P) (.node (boot_o_7 P) (.node (o52 P) (.node (o68 P) (.node (o105 P) .nil .nil) .nil) (.node (o90 P) (.node (o121 P) .nil .nil) .nil)) (.node (o60 P) (.node (o76 P) (.node (o113 P) .nil .nil) .nil) (.node (o95 P) (.node (o129 P) .nil .nil) .nil))) (.node (o43 P) (.node (o56 P) (.node (o72 P) (.node (o109 P) .nil .nil) .nil) (.node (o91 P) (.node (o125 P) .nil .nil) .nil)) (.node (o64 P) (.node (o80 P) (.node (o117 P) .nil .nil) .nil) (.node (o99 P) .nil .nil)))) (.node (boot_o_5 P) (.node (boot_o_9 P) (.node (o54 P) (.node (o70 P) (.node (o107 P) .nil .nil) .nil) (.node (o86 P) (.node (o123 P) .nil .nil) .nil)) (.node (o62 P) (.node (o78 P) (.node (o115 P) .nil .nil) .nil) (.node (o97 P) (.node (o131 P) .nil .nil) .nil))) (.node (o45 P) (.node (o58 P) (.node (o74 P) (.node (o111 P) .nil .nil) .nil) (.node (o93 P) (.node (o127 P) .nil .nil) .nil)) (.node (o66 P) (.node (o82 P) (.node (o119 P) .nil .nil) .nil) (.node (o101 P) .nil .nil))))) (.node (o49 P) (.node (boot_o_4 P) (.node (boot_o_8 P) (.node (o53 P) (.node (o69 P) (.node (o106 P) .nil .nil) .nil) (.node (o85 P) (.node (o122 P) .nil .nil) .nil)) (.node (o61 P) (.node (o77 P) (.node (o114 P) .nil .nil) .nil) (.node (o96 P) (.node (o130 P) .nil .nil) .nil))) (.node (o104 P) (.node (o57 P) (.node (o73 P) (.node (o110 P) .nil .nil) .nil) (.node (o92 P) (.node (o126 P) .nil .nil) .nil)) (.node (o65 P) (.node (o81 P) (.node (o118 P) .nil .nil) .nil) (.node (o100 P) .nil .nil)))) (.node (boot_o_6 P) (.node (boot_o_10 P) (.node (o55 P) (.node (o71 P) (.node (o108 P) .nil .nil) .nil) (.node (o87 P) (.node (o124 P) .nil .nil) .nil)) (.node (o63 P) (.node (o79 P) (.node (o116 P) .nil .nil) .nil) (.node (o98 P) (.node (o132 P) .nil .nil) .nil))) (.node (o46 P) (.node (o59 P) (.node (o75 P) (.node (o112 P) .nil .nil) .nil) (.node (o94 P) (.node (o128 P) .nil .nil) .nil)) (.node (o67 P) (.node (o83 P) (.node (o120 P) .nil .nil) .nil) (.node (o102 P) .nil .nil))))))
noncomputable def tree181 (P : Params) : BT := (.node (boot_o_0 P) (.node (boot_o_1 P) (.node (o133 P) (.node (boot_o_7 P) (.node (o52 P) (.node (o68 P) (.node (o105 P) (.node (o171 P) .nil .nil) .nil) (.node (o139 P) .nil .nil)) (.node (o90 P) (.node (o121 P) .nil .nil) (.node (o155 P) .nil .nil))) (.node (o60 P) (.node (o76 P) (.node (o113 P) (.node (o179 P) .nil .nil) .nil) (.node (o147 P) .nil .nil)) (.node (o95 P) (.node (o129 P) .nil .nil) (.node (o163 P) .nil .nil)))) (.node (o43 P) (.node (o56 P) (.node (o72 P) (.node (o109 P) (.node (o175 P) .nil .nil) .nil) (.node (o143 P) .nil .nil)) (.node (o91 P) (.node (o125 P) .nil .nil) (.node (o159 P) .nil .nil))) (.node (o64 P) (.node (o80 P) (.node (o117 P) .nil .nil) (.node (o151 P) .nil .nil)) (.node (o99 P) (.node (o135 P) .nil .nil) (.node (o167 P) .nil .nil))))) (.node (boot_o_5 P) (.node (boot_o_9 P) (.node (o54 P) (.node (o70 P) (.node (o107 P) (.node (o173 P) .nil .nil) .nil) (.node (o141 P) .nil .nil)) (.node (o86 P) (.node (o123 P) .nil .nil) (.node (o157 P) .nil .nil))) (.node (o62 P) (.node (o78 P) (.node (o115 P) (.node (o181 P) .nil .nil) .nil) (.node (o149 P) .nil .nil)) (.node (o97 P) (.node (o131 P) .nil .nil) (.node (o165 P) .nil .nil)))) (.node (o45 P) (.node (o58 P) (.node (o74 P) (.node (o111 P) (.node (o177 P) .nil .nil) .nil) (.node (o145 P) .nil .nil)) (.node (o93 P) (.node (o127 P) .nil .nil) (.node (o161 P) .nil .nil))) (.node (o66 P) (.node (o82 P) (.node (o119 P) .nil .nil) (.node (o153 P) .nil .nil)) (.node (o101 P) (.node (o137 P) .nil .nil) (.node (o169 P) .nil .nil)))))) (.node (o49 P) (.node (boot_o_4 P) (.node (boot_o_8 P) (.node (o53 P) (.node (o69 P) (.node (o106 P) (.node (o172 P) .nil .nil) .nil) (.node (o140 P) .nil .nil)) (.node (o85 P) (.node (o122 P) .nil .nil) (.node (o156 P) .nil .nil))) (.node (o61 P) (.node (o77 P) (.node (o114 P) (.node (o180 P) .nil .nil) .nil) (.node (o148 P) .nil .nil)) (.node (o96 P) (.node (o130 P) .nil .nil) (.node (o164 P) .nil .nil)))) (.node (o134 P) (.node (o57 P) (.node (o73 P) (.node (o110 P) (.node (o176 P) .nil .nil) .nil) (.node (o144 P) .nil .nil)) (.node (o92 P) (.node (o126 P) .nil .nil) (.node (o160 P) .nil .nil))) (.node (o65 P) (.node (o81 P) (.node (o118 P) .nil .nil) (.node (o152 P) .nil .nil)) (.node (o100 P) (.node (o136 P) .nil .nil) (.node (o168 P) .nil .nil))))) (.node (boot_o_6 P) (.node (boot_o_10 P) (.node (o55 P) (.node (o71 P) (.node (o108 P) (.node (o174 P) .nil .nil) .nil) (.node (o142 P) .nil .nil)) (.node (o87 P) (.node (o124 P) .nil .nil) (.node (o158 P) .nil .nil))) (.node (o63 P) (.node (o79 P) (.node (o116 P) .nil .nil) (.node (o150 P) .nil .nil)) (.node (o98 P) (.node (o132 P) .nil .nil) (.node (o166 P) .nil .nil)))) (.node (o46 P) (.node (o59 P) (.node (o75 P) (.node (o112 P) (.node (o178 P) .nil .nil) .nil) (.node (o146 P) .nil .nil)) (.node (o94 P) (.node (o128 P) .nil .nil) (.node (o162 P) .nil .nil))) (.node (o67 P) (.node (o83 P) (.node (o120 P) .nil .nil) (.node (o154 P) .nil .nil)) (.node (o102 P) (.node (o138 P) .nil .nil) (.node (o170 P) .nil .nil)))))))
noncomputable def tree235 (P : Params) : BT := (.node (boot_o_0 P) (.node (boot_o_1 P) (.node (o182 P) (.node (boot_o_7 P) (.node (o52 P) (.node (o68 P) (.node (o105 P) (.node (o171 P) .nil .nil) .nil) (.node (o139 P) (.node (o205 P) .nil .nil) .nil)) (.node (o90 P) (.node (o121 P) (.node (o189 P) .nil .nil) .nil) (.node (o155 P) (.node (o221 P) .nil .nil) .nil))) (.node (o60 P) (.node (o76 P) (.node (o113 P) (.node (o179 P) .nil .nil) .nil) (.node (o147 P) (.node (o213 P) .nil .nil) .nil)) (.node (o95 P) (.node (o129 P) (.node (o197 P) .nil .nil) .nil) (.node (o163 P) (.node (o229 P) .nil .nil) .nil)))) (.node (o43 P) (.node (o56 P) (.node (o72 P) (.node (o109 P) (.node (o175 P) .nil .nil) .nil) (.node (o143 P) (.node (o209 P) .nil .nil) .nil)) (.node (o91 P) (.node (o125 P) (.node (o193 P) .nil .nil) .nil) (.node (o159 P) (.node (o225 P) .nil .nil) .nil))) (.node (o64 P) (.node (o80 P) (.node (o117 P) (.node (o185 P) .nil .nil) .nil) (.node (o151 P) (.node (o217 P) .nil .nil) .nil)) (.node (o99 P) (.node (o135 P) (.node (o201 P) .nil .nil) .nil) (.node (o167 P) (.node (o233 P) .nil .nil) .nil))))) (.node (boot_o_5 P) (.node (boot_o_9 P) (.node (o54 P) (.node (o70 P) (.node (o107 P) (.node (o173 P) .nil .nil) .nil) (.node (o141 P) (.node (o207 P) .nil .nil) .nil)) (.node (o86 P) (.node (o123 P) (.node (o191 P) .nil .nil) .nil) (.node (o157 P) (.node (o223 P) .nil .nil) .nil))) (.node (o62 P) (.node (o78 P) (.node (o115 P) (.node (o181 P) .nil .nil) .nil) (.node (o149 P) (.node (o215 P) .nil .nil) .nil)) (.node (o97 P) (.node (o131 P) (.node (o199 P) .nil .nil) .nil) (.node (o165 P) (.node (o231 P) .nil .nil) .nil)))) (.node (o45 P) (.node (o58 P) (.node (o74 P) (.node (o111 P) (.node (o177 P) .nil .nil) .nil) (.node (o145 P) (.node (o211 P) .nil .nil) .nil)) (.node (o93 P) (.node (o127 P) (.node (o195 P) .nil .nil) .nil) (.node (o161 P) (.node (o227 P) .nil .nil) .nil))) (.node (o66 P) (.node (o82 P) (.node (o119 P) (.node (o187 P) .nil .nil) .nil) (.node (o153 P) (.node (o219 P) .nil .nil) .nil)) (.node (o101 P) (.node (o137 P) (.node (o203 P) .nil .nil) .nil) (.node (o169 P) (.node (o235 P) .nil .nil) .nil)))))) (.node (o49 P) (.node (boot_o_4 P) (.node (boot_o_8 P) (.node (o53 P) (.node (o69 P) (.node (o106 P) (.node (o172 P) .nil .nil) .nil) (.node (o140 P) (.node (o206 P) .nil .nil) .nil)) (.node (o85 P) (.node (o122 P) (.node (o190 P) .nil .nil) .nil) (.node (o156 P) (.node (o222 P) .nil .nil) .nil))) (.node (o61 P) (.node (o77 P) (.node (o114 P) (.node (o180 P) .nil .nil) .nil) (.node (o148 P) (.node (o214 P) .nil .nil) .nil)) (.node (o96 P) (.node (o130 P) (.node (o198 P) .nil .nil) .nil) (.node (o164 P) (.node (o230 P) .nil .nil) .nil)))) (.node (o183 P) (.node (o57 P) (.node (o73 P) (.node (o110 P) (.node (o176 P) .nil .nil) .nil) (.node (o144 P) (.node (o210 P) .nil .nil) .nil)) (.node (o92 P) (.node (o126 P) (.node (o194 P) .nil .nil) .nil) (.node (o160 P) (.node (o226 P) .nil .nil) .nil))) (.node (o65 P) (.node (o81 P) (.node (o118 P) (.node (o186 P) .nil .nil) .nil) (.node (o152 P) (.node (o218 P) .nil .nil) .nil)) (.node (o100 P) (.node (o136 P) (.node (o202 P) .nil .nil) .nil) (.node (o168 P) (.node (o234 P) .nil .nil) .nil))))) (.node (boot_o_6 P) (.node (boot_o_10 P) (.node (o55 P) (.node (o71 P) (.node (o108 P) (.node (o174 P) .nil .nil) .nil) (.node (o142 P) (.node (o208 P) .nil .nil) .nil)) (.node (o87 P) (.node (o124 P) (.node (o192 P) .nil .nil) .nil) (.node (o158 P) (.node (o224 P) .nil .nil) .nil))) (.node (o63 P) (.node (o79 P) (.node (o116 P) (.node (o184 P) .nil .nil) .nil) (.node (o150 P) (.node (o216 P) .nil .nil) .nil)) (.node (o98 P) (.node (o132 P) (.node (o200 P) .nil .nil) .nil) (.node (o166 P) (.node (o232 P) .nil .nil) .nil)))) (.node (o46 P) (.node (o59 P) (.node (o75 P) (.node (o112 P) (.node (o178 P) .nil .nil) .nil) (.node (o146 P) (.node (o212 P) .nil .nil) .nil)) (.node (o94 P) (.node (o128 P) (.node (o196 P) .nil .nil) .nil) (.node (o162 P) (.node (o228 P) .nil .nil) .nil))) (.node (o67 P) (.node (o83 P) (.node (o120 P) (.node (o188 P) .nil .nil) .nil) (.node (o154 P) (.node (o220 P) .nil .nil) .nil)) (.node (o102 P) (.node (o138 P) (.node (o204 P) .nil .nil) .nil) (.node (o170 P) .nil .nil)))))))
noncomputable def tree286 (P : Params) : BT := (.node (boot_o_0 P) (.node (boot_o_1 P) (.node (o236 P) (.node (boot_o_7 P) (.node (o52 P) (.node (o68 P) (.node (o105 P) (.node (o171 P) .nil .nil) (.node (o239 P) .nil .nil)) (.node (o139 P) (.node (o205 P) .nil .nil) (.node (o271 P) .nil .nil))) (.node (o90 P) (.node (o121 P) (.node (o189 P) .nil .nil) (.node (o255 P) .nil .nil)) (.node (o155 P) (.node (o221 P) .nil .nil) .nil))) (.node (o60 P) (.node (o76 P) (.node (o113 P) (.node (o179 P) .nil .nil) (.node (o247 P) .nil .nil)) (.node (o147 P) (.node (o213 P) .nil .nil) (.node (o279 P) .nil .nil))) (.node (o95 P) (.node (o129 P) (.node (o197 P) .nil .nil) (.node (o263 P) .nil .nil)) (.node (o163 P) (.node (o229 P) .nil .nil) .nil)))) (.node (o43 P) (.node (o56 P) (.node (o72 P) (.node (o109 P) (.node (o175 P) .nil .nil) (.node (o243 P) .nil .nil)) (.node (o143 P) (.node (o209 P) .nil .nil) (.node (o275 P) .nil .nil))) (.node (o91 P) (.node (o125 P) (.node (o193 P) .nil .nil) (.node (o259 P) .nil .nil)) (.node (o159 P) (.node (o225 P) .nil .nil) .nil))) (.node (o64 P) (.node (o80 P) (.node (o117 P) (.node (o185 P) .nil .nil) (.node (o251 P) .nil .nil)) (.node (o151 P) (.node (o217 P) .nil .nil) (.node (o283 P) .nil .nil))) (.node (o99 P) (.node (o135 P) (.node (o201 P) .nil .nil) (.node (o267 P) .nil .nil)) (.node (o167 P) (.node (o233 P) .nil .nil) .nil))))) (.node (boot_o_5 P) (.node (boot_o_9 P) (.node (o54 P) (.node (o70 P) (.node (o107 P) (.node (o173 P) .nil .nil) (.node (o241 P) .nil .nil)) (.node (o141 P) (.node (o207 P) .nil .nil) (.node (o273 P) .nil .nil))) (.node (o86 P) (.node (o123 P) (.node (o191 P) .nil .nil) (.node (o257 P) .nil .nil)) (.node (o157 P) (.node (o223 P) .nil .nil) .nil))) (.node (o62 P) (.node (o78 P) (.node (o115 P) (.node (o181 P) .nil .nil) (.node (o249 P) .nil .nil)) (.node (o149 P) (.node (o215 P) .nil .nil) (.node (o281 P) .nil .nil))) (.node (o97 P) (.node (o131 P) (.node (o199 P) .nil .nil) (.node (o265 P) .nil .nil)) (.node (o165 P) (.node (o231 P) .nil .nil) .nil)))) (.node (o45 P) (.node (o58 P) (.node (o74 P) (.node (o111 P) (.node (o177 P) .nil .nil) (.node (o245 P) .nil .nil)) (.node (o145 P) (.node (o211 P) .nil .nil) (.node (o277 P) .nil .nil))) (.node (o93 P) (.node (o127 P) (.node (o195 P) .nil .nil) (.node (o261 P) .nil .nil)) (.node (o161 P) (.node (o227 P) .nil .nil) .nil))) (.node (o66 P) (.node (o82 P) (.node (o119 P) (.node (o187 P) .nil .nil) (.node (o253 P) .nil .nil)) (.node (o153 P) (.node (o219 P) .nil .nil) (.node (o285 P) .nil .nil))) (.node (o101 P) (.node (o137 P) (.node (o203 P) .nil .nil) (.node (o269 P) .nil .nil)) (.node (o169 P) (.node (o235 P) .nil .nil) .nil)))))) (.node (o49 P) (.node (boot_o_4 P) (.node (boot_o_8 P) (.node (o53 P) (.node (o69 P) (.node (o106 P) (.node (o172 P) .nil .nil) (.node (o240 P) .nil .nil)) (.node (o140 P) (.node (o206 P) .nil .nil) (.node (o272 P) .nil .nil))) (.node (o85 P) (.node (o122 P) (.node (o190 P) .nil .nil) (.node (o256 P) .nil .nil)) (.node (o156 P) (.node (o222 P) .nil .nil) .nil))) (.node (o61 P) (.node (o77 P) (.node (o114 P) (.node (o180 P) .nil .nil) (.node (o248 P) .nil .nil)) (.node (o148 P) (.node (o214 P) .nil .nil) (.node (o280 P) .nil .nil))) (.node (o96 P) (.node (o130 P) (.node (o198 P) .nil .nil) (.node (o264 P) .nil .nil)) (.node (o164 P) (.node (o230 P) .nil .nil) .nil)))) (.node (o237 P) (.node (o57 P) (.node (o73 P) (.node (o110 P) (.node (o176 P) .nil .nil) (.node (o244 P) .nil .nil)) (.node (o144 P) (.node (o210 P) .nil .nil) (.node (o276 P) .nil .nil))) (.node (o92 P) (.node (o126 P) (.node (o194 P) .nil .nil) (.node (o260 P) .nil .nil)) (.node (o160 P) (.node (o226 P) .nil .nil) .nil))) (.node (o65 P) (.node (o81 P) (.node (o118 P) (.node (o186 P) .nil .nil) (.node (o252 P) .nil .nil)) (.node (o152 P) (.node (o218 P) .nil .nil) (.node (o284 P) .nil .nil))) (.node (o100 P) (.node (o136 P) (.node (o202 P) .nil .nil) (.node (o268 P) .nil .nil)) (.node (o168 P) (.node (o234 P) .nil .nil) .nil))))) (.node (boot_o_6 P) (.node (boot_o_10 P) (.node (o55 P) (.node (o71 P) (.node (o108 P) (.node (o174 P) .nil .nil) (.node (o242 P) .nil .nil)) (.node (o142 P) (.node (o208 P) .nil .nil) (.node (o274 P) .nil .nil))) (.node (o87 P) (.node (o124 P) (.node (o192 P) .nil .nil) (.node (o258 P) .nil .nil)) (.node (o158 P) (.node (o224 P) .nil .nil) .nil))) (.node (o63 P) (.node (o79 P) (.node (o116 P) (.node (o184 P) .nil .nil) (.node (o250 P) .nil .nil)) (.node (o150 P) (.node (o216 P) .nil .nil) (.node (o282 P) .nil .nil))) (.node (o98 P) (.node (o132 P) (.node (o200 P) .nil .nil) (.node (o266 P) .nil .nil)) (.node (o166 P) (.node (o232 P) .nil .nil) .nil)))) (.node (o46 P) (.node (o59 P) (.node (o75 P) (.node (o112 P) (.node (o178 P) .nil .nil) (.node (o246 P) .nil .nil)) (.node (o146 P) (.node (o212 P) .nil .nil) (.node (o278 P) .nil .nil))) (.node (o94 P) (.node (o128 P) (.node (o196 P) .nil .nil) (.node (o262 P) .nil .nil)) (.node (o162 P) (.node (o228 P) .nil .nil) .nil))) (.node (o67 P) (.node (o83 P) (.node (o120 P) (.node (o188 P) .nil .nil) (.node (o254 P) .nil .nil)) (.node (o154 P) (.node (o220 P) .nil .nil) (.node (o286 P) .nil .nil))) (.node (o102 P) (.node (o138 P) (.node (o204 P) .nil .nil) (.node (o270 P) .nil .nil)) (.node (o170 P) (.node (o238 P) .nil .nil) .nil)))))))
noncomputable def tree307 (P : Params) : BT := (.node (boot_o_0 P) (.node (boot_o_1 P) (.node (o287 P) (.node (boot_o_7 P) (.node (o52 P) (.node (o68 P) (.node (o105 P) (.node (o171 P) (.node (o305 P) .nil .nil) .nil) (.node (o239 P) .nil .nil)) (.node (o139 P) (.node (o205 P) .nil .nil) (.node (o271 P) .nil .nil))) (.node (o90 P) (.node (o121 P) (.node (o189 P) .nil .nil) (.node (o255 P) .nil .nil)) (.node (o155 P) (.node (o221 P) .nil .nil) (.node (o289 P) .nil .nil)))) (.node (o60 P) (.node (o76 P) (.node (o113 P) (.node (o179 P) .nil .nil) (.node (o247 P) .nil .nil)) (.node (o147 P) (.node (o213 P) .nil .nil) (.node (o279 P) .nil .nil))) (.node (o95 P) (.node (o129 P) (.node (o197 P) .nil .nil) (.node (o263 P) .nil .nil)) (.node (o163 P) (.node (o229 P) .nil .nil) (.node (o297 P) .nil .nil))))) (.node (o43 P) (.node (o56 P) (.node (o72 P) (.node (o109 P) (.node (o175 P) .nil .nil) (.node (o243 P) .nil .nil)) (.node (o143 P) (.node (o209 P) .nil .nil) (.node (o275 P) .nil .nil))) (.node (o91 P) (.node (o125 P) (.node (o193 P) .nil .nil) (.node (o259 P) .nil .nil)) (.node (o159 P) (.node (o225 P) .nil .nil) (.node (o293 P) .nil .nil)))) (.node (o64 P) (.node (o80 P) (.node (o117 P) (.node (o185 P) .nil .nil) (.node (o251 P) .nil .nil)) (.node (o151 P) (.node (o217 P) .nil .nil) (.node (o283 P) .nil .nil))) (.node (o99 P) (.node (o135 P) (.node (o201 P) .nil .nil) (.node (o267 P) .nil .nil)) (.node (o167 P) (.node (o233 P) .nil .nil) (.node (o301 P) .nil .nil)))))) (.node (boot_o_5 P) (.node (boot_o_9 P) (.node (o54 P) (.node (o70 P) (.node (o107 P) (.node (o173 P) (.node (o307 P) .nil .nil) .nil) (.node (o241 P) .nil .nil)) (.node (o141 P) (.node (o207 P) .nil .nil) (.node (o273 P) .nil .nil))) (.node (o86 P) (.node (o123 P) (.node (o191 P) .nil .nil) (.node (o257 P) .nil .nil)) (.node (o157 P) (.node (o223 P) .nil .nil) (.node (o291 P) .nil .nil)))) (.node (o62 P) (.node (o78 P) (.node (o115 P) (.node (o181 P) .nil .nil) (.node (o249 P) .nil .nil)) (.node (o149 P) (.node (o215 P) .nil .nil) (.node (o281 P) .nil .nil))) (.node (o97 P) (.node (o131 P) (.node (o199 P) .nil .nil) (.node (o265 P) .nil .nil)) (.node (o165 P) (.node (o231 P) .nil .nil) (.node (o299 P) .nil .nil))))) (.node (o45 P) (.node (o58 P) (.node (o74 P) (.node (o111 P) (.node (o177 P) .nil .nil) (.node (o245 P) .nil .nil)) (.node (o145 P) (.node (o211 P) .nil .nil) (.node (o277 P) .nil .nil))) (.node (o93 P) (.node (o127 P) (.node (o195 P) .nil .nil) (.node (o261 P) .nil .nil)) (.node (o161 P) (.node (o227 P) .nil .nil) (.node (o295 P) .nil .nil)))) (.node (o66 P) (.node (o82 P) (.node (o119 P) (.node (o187 P) .nil .nil) (.node (o253 P) .nil .nil)) (.node (o153 P) (.node (o219 P) .nil .nil) (.node (o285 P) .nil .nil))) (.node (o101 P) (.node (o137 P) (.node (o203 P) .nil .nil) (.node (o269 P) .nil .nil)) (.node (o169 P) (.node (o235 P) .nil .nil) (.node (o303 P) .nil .nil))))))) (.node (o49 P) (.node (boot_o_4 P) (.node (boot_o_8 P) (.node (o53 P) (.node (o69 P) (.node (o106 P) (.node (o172 P) (.node (o306 P) .nil .nil) .nil) (.node (o240 P) .nil .nil)) (.node (o140 P) (.node (o206 P) .nil .nil) (.node (o272 P) .nil .nil))) (.node (o85 P) (.node (o122 P) (.node (o190 P) .nil .nil) (.node (o256 P) .nil .nil)) (.node (o156 P) (.node (o222 P) .nil .nil) (.node (o290 P) .nil .nil)))) (.node (o61 P) (.node (o77 P) (.node (o114 P) (.node (o180 P) .nil .nil) (.node (o248 P) .nil .nil)) (.node (o148 P) (.node (o214 P) .nil .nil) (.node (o280 P) .nil .nil))) (.node (o96 P) (.node (o130 P) (.node (o198 P) .nil .nil) (.node (o264 P) .nil .nil)) (.node (o164 P) (.node (o230 P) .nil .nil) (.node (o298 P) .nil .nil))))) (.node (o288 P) (.node (o57 P) (.node (o73 P) (.node (o110 P) (.node (o176 P) .nil .nil) (.node (o244 P) .nil .nil)) (.node (o144 P) (.node (o210 P) .nil .nil) (.node (o276 P) .nil .nil))) (.node (o92 P) (.node (o126 P) (.node (o194 P) .nil .nil) (.node (o260 P) .nil .nil)) (.node (o160 P) (.node (o226 P) .nil .nil) (.node (o294 P) .nil .nil)))) (.node (o65 P) (.node (o81 P) (.node (o118 P) (.node (o186 P) .nil .nil) (.node (o252 P) .nil .nil)) (.node (o152 P) (.node (o218 P) .nil .nil) (.node (o284 P) .nil .nil))) (.node (o100 P) (.node (o136 P) (.node (o202 P) .nil .nil) (.node (o268 P) .nil .nil)) (.node (o168 P) (.node (o234 P) .nil .nil) (.node (o302 P) .nil .nil)))))) (.node (boot_o_6 P) (.node (boot_o_10 P) (.node (o55 P) (.node (o71 P) (.node (o108 P) (.node (o174 P) .nil .nil) (.node (o242 P) .nil .nil)) (.node (o142 P) (.node (o208 P) .nil .nil) (.node (o274 P) .nil .nil))) (.node (o87 P) (.node (o124 P) (.node (o192 P) .nil .nil) (.node (o258 P) .nil .nil)) (.node (o158 P) (.node (o224 P) .nil .nil) (.node (o292 P) .nil .nil)))) (.node (o63 P) (.node (o79 P) (.node (o116 P) (.node (o184 P) .nil .nil) (.node (o250 P) .nil .nil)) (.node (o150 P) (.node (o216 P) .nil .nil) (.node (o282 P) .nil .nil))) (.node (o98 P) (.node (o132 P) (.node (o200 P) .nil .nil) (.node (o266 P) .nil .nil)) (.node (o166 P) (.node (o232 P) .nil .nil) (.node (o300 P) .nil .nil))))) (.node (o46 P) (.node (o59 P) (.node (o75 P) (.node (o112 P) (.node (o178 P) .nil .nil) (.node (o246 P) .nil .nil)) (.node (o146 P) (.node (o212 P) .nil .nil) (.node (o278 P) .nil .nil))) (.node (o94 P) (.node (o128 P) (.node (o196 P) .nil .nil) (.node (o262 P) .nil .nil)) (.node (o162 P) (.node (o228 P) .nil .nil) (.node (o296 P) .nil .nil)))) (.node (o67 P) (.node (o83 P) (.node (o120 P) (.node (o188 P) .nil .nil) (.node (o254 P) .nil .nil)) (.node (o154 P) (.node (o220 P) .nil .nil) (.node (o286 P) .nil .nil))) (.node (o102 P) (.node (o138 P) (.node (o204 P) .nil .nil) (.node (o270 P) .nil .nil)) (.node (o170 P) (.node (o238 P) .nil .nil) (.node (o304 P) .nil .nil))))))))
noncomputable def heap39 (P : Params) : Frag := (nat_lit 2, (o49 P)) :: (nat_lit 3, (o287 P)) :: (nat_lit 15, (o52 P)) :: (nat_lit 17, (o54 P)) :: (nat_lit 18, (o55 P)) :: (nat_lit 20, (o57 P)) :: (nat_lit 21, (o58 P)) :: (nat_lit 22, (o59 P)) :: (nat_lit 29, (o66 P)) :: (nat_lit 30, (o67 P)) :: (nat_lit 31, (o68 P)) :: (nat_lit 33, (o70 P)) :: (nat_lit 34, (o71 P)) :: (nat_lit 36, (o73 P)) :: (nat_lit 37, (o74 P)) :: (nat_lit 38, (o75 P)) :: (nat_lit 40, (o77 P)) :: (nat_lit 41, (o78 P)) :: (nat_lit 43, (o80 P)) :: (nat_lit 44, (o81 P)) :: (nat_lit 45, (o82 P)) :: (nat_lit 46, (o83 P)) :: (nat_lit 47, (o90 P)) :: (nat_lit 48, (o85 P)) :: (nat_lit 51, (o91 P)) :: (nat_lit 58, (o98 P)) :: (nat_lit 59, (o99 P)) :: (nat_lit 60, (o100 P)) :: (nat_lit 70, (o112 P)) :: (nat_lit 72, (o114 P)) :: (nat_lit 73, (o115 P)) :: (nat_lit 75, (o117 P)) :: (nat_lit 76, (o118 P)) :: (nat_lit 77, (o119 P)) :: (nat_lit 79, (o121 P)) :: (nat_lit 80, (o122 P)) :: (nat_lit 82, (o124 P)) :: (nat_lit 83, (o125 P)) :: (nat_lit 84, (o126 P)) :: (nat_lit 85, (o127 P)) :: (nat_lit 86, (o128 P)) :: (nat_lit 87, (o129 P)) :: (nat_lit 88, (o130 P)) :: (nat_lit 98, (o142 P)) :: (nat_lit 100, (o144 P)) :: (nat_lit 101, (o145 P)) :: (nat_lit 103, (o147 P)) :: (nat_lit 104, (o148 P)) :: (nat_lit 105, (o149 P)) :: (nat_lit 107, (o151 P)) :: (nat_lit 108, (o152 P)) :: (nat_lit 110, (o154 P)) :: (nat_lit 111, (o155 P)) :: (nat_lit 112, (o156 P)) :: (nat_lit 114, (o158 P)) :: (nat_lit 115, (o159 P)) :: (nat_lit 117, (o161 P)) :: (nat_lit 118, (o162 P)) :: (nat_lit 119, (o163 P)) :: (nat_lit 121, (o165 P)) :: (nat_lit 122, (o166 P)) :: (nat_lit 124, (o168 P)) :: (nat_lit 125, (o169 P)) :: (nat_lit 126, (o170 P)) :: (nat_lit 129, (o173 P)) :: (nat_lit 130, (o174 P)) :: (nat_lit 131, (o175 P)) :: (nat_lit 132, (o176 P)) :: (nat_lit 133, (o177 P)) :: (nat_lit 134, (o178 P)) :: (nat_lit 135, (o179 P)) :: (nat_lit 145, (o191 P)) :: (nat_lit 147, (o193 P)) :: (nat_lit 148, (o194 P)) :: (nat_lit 150, (o196 P)) :: (nat_lit 151, (o197 P)) :: (nat_lit 152, (o198 P)) :: (nat_lit 155, (o201 P)) :: (nat_lit 156, (o202 P)) :: (nat_lit 157, (o203 P)) :: (nat_lit 158, (o204 P)) :: (nat_lit 159, (o205 P)) :: (nat_lit 160, (o206 P)) :: (nat_lit 161, (o207 P)) :: (nat_lit 164, (o210 P)) :: (nat_lit 166, (o212 P)) :: (nat_lit 167, (o213 P)) :: (nat_lit 169, (o215 P)) :: (nat_lit 170, (o216 P)) :: (nat_lit 171, (o217 P)) :: (nat_lit 173, (o219 P)) :: (nat_lit 174, (o220 P)) :: (nat_lit 176, (o222 P)) :: (nat_lit 177, (o223 P)) :: (nat_lit 178, (o224 P)) :: (nat_lit 180, (o226 P)) :: (nat_lit 181, (o227 P)) :: (nat_lit 183, (o229 P)) :: (nat_lit 184, (o230 P)) :: (nat_lit 185, (o231 P)) :: (nat_lit 188, (o234 P)) :: (nat_lit 189, (o235 P)) :: (nat_lit 197, (o245 P)) :: (nat_lit 199, (o247 P)) :: (nat_lit 200, (o248 P)) :: (nat_lit 202, (o250 P)) :: (nat_lit 203, (o251 P)) :: (nat_lit 204, (o252 P)) :: (nat_lit 206, (o254 P)) :: (nat_lit 207, (o255 P)) :: (nat_lit 209, (o257 P)) :: (nat_lit 210, (o258 P)) :: (nat_lit 211, (o259 P)) :: (nat_lit 212, (o260 P)) :: (nat_lit 213, (o261 P)) :: (nat_lit 214, (o262 P)) :: (nat_lit 215, (o263 P)) :: (nat_lit 218, (o266 P)) :: (nat_lit 219, (o267 P)) :: (nat_lit 220, (o268 P)) :: (nat_lit 222, (o270 P)) :: (nat_lit 223, (o271 P)) :: (nat_lit 225, (o273 P)) :: (nat_lit 226, (o274 P)) :: (nat_lit 227, (o275 P)) :: (nat_lit 229, (o277 P)) :: (nat_lit 230, (o278 P)) :: (nat_lit 232, (o280 P)) :: (nat_lit 233, (o281 P)) :: (nat_lit 234, (o282 P)) :: (nat_lit 237, (o285 P)) :: (nat_lit 238, (o286 P)) :: (nat_lit 239, (o289 P)) :: (nat_lit 241, (o291 P)) :: (nat_lit 242, (o292 P)) :: (nat_lit 244, (o294 P)) :: (nat_lit 245, (o295 P)) :: (nat_lit 246, (o296 P)) :: (nat_lit 248, (o298 P)) :: (nat_lit 249, (o299 P)) :: (nat_lit 251, (o301 P)) :: (nat_lit 252, (o302 P)) :: (nat_lit 253, (o303 P)) :: (nat_lit 256, (o306 P)) :: (nat_lit 257, (o307 P)) :: []
def as39 : List Addr := [2, 3, 15, 17, 18, 20, 21, 22, 29, 30, 31, 33, 34, 36, 37, 38, 40, 41, 43, 44, 45, 46, 47, 48, 51, 58, 59, 60, 70, 72, 73, 75, 76, 77, 79, 80, 82, 83, 84, 85, 86, 87, 88, 98, 100, 101, 103, 104, 105, 107, 108, 110, 111, 112, 114, 115, 117, 118, 119, 121, 122, 124, 125, 126, 129, 130, 131, 132, 133, 134, 135, 145, 147, 148, 150, 151, 152, 155, 156, 157, 158, 159, 160, 161, 164, 166, 167, 169, 170, 171, 173, 174, 176, 177, 178, 180, 181, 183, 184, 185, 188, 189, 197, 199, 200, 202, 203, 204, 206, 207, 209, 210, 211, 212, 213, 214, 215, 218, 219, 220, 222, 223, 225, 226, 227, 229, 230, 232, 233, 234, 237, 238, 239, 241, 242, 244, 245, 246, 248, 249, 251, 252, 253, 256, 257]
noncomputable def env41 : Env := { scope := PG.main.scope, locals := mainNs, globals := mainNs, cells := [], code := .ref 13, frame := some 14 }
noncomputable def cE : Code := .body (behindTheImports PG) env41
def sts49 : List Stmt := [topStmt 0, topStmt 1, topStmt 2]
def sts88 : List Stmt := [topStmt 3, topStmt 4]
def sts103 : List Stmt := [topStmt 5]
def sts133 : List Stmt := [topStmt 6]
def sts182 : List Stmt := [topStmt 7, topStmt 8, topStmt 9, topStmt 10, topStmt 11, topStmt 12, topStmt 13]
def sts236 : List Stmt := [topStmt 14, topStmt 15, topStmt 16, topStmt 17, topStmt 18, topStmt 19, topStmt 20]
def sts287 : List Stmt := [topStmt 21, topStmt 22, topStmt 23]
/-- what stands at the end: the text without its assignments of __name__ -/
def view39 : Program := { PG with main := { PG.main with body := [topStmt 0, topStmt 2, topStmt 3, topStmt 5, topStmt 6, topStmt 7, topStmt 8, topStmt 10, topStmt 11, topStmt 12, topStmt 14, topStmt 16, topStmt 17, topStmt 18, topStmt 19, topStmt 20, topStmt 21, topStmt 22, topStmt 23] } }
theorem piece0 (w : World) : (fun os => topGo treeTable PG w 11 (some (.ref 6)) 12 ⟨boot_heap w.params, #[], boot_drawn, boot_toks, os⟩ (topStub PG)) =
    fun os => some (⟨heap46 w.params, #[], {}, 187, os⟩, ⟨denote treeTable cE, cE, ⟨0, 0, 0, 0⟩, [topFrame ⟨0, 0, 0, 0⟩]⟩) := by
  kernel_rfl
theorem pieceB (w : World) : (fun os => segRun treeTable PG w 11 (some (.ref 6)) 1 1 ⟨heap46 w.params, #[], {}, 187, os⟩ (blockOf (behindTheImports PG) env41 cE ⟨0, 0, 0, 0⟩ [topFrame ⟨0, 0, 0, 0⟩])) =
    fun os => some (.next, (⟨tree47 w.params, 15, {}, #[], {}, 187, os⟩ : SharedT).abs, cE, ⟨0, 0, 0, 0⟩) := by
  kernel_rfl
theorem piece1 (w : World) : (fun os => segRunT treeTable PG w 11 (some (.ref 6)) 1 305 (⟨tree47 w.params, 15, {}, #[], {}, 187, os⟩ : SharedT) (piecesOf sts49 env41 cE ⟨0, 0, 0, 0⟩ [topFrame ⟨0, 0, 0, 0⟩])) =
    fun os => some (.next, (⟨tree87 w.params, 51, {}, #[], {}, 236, os⟩ : SharedT), cE, ⟨5, 0, 13, 35⟩) := by
  rw [PySem.W.Fast.te10110043849684766642, PySem.W.Fast.te14364793385576792824]
  kernel_rfl
theorem piece2 (w : World) : (fun os => segRunT treeTable PG w 11 (some (.ref 6)) 1 223 (⟨tree87 w.params, 51, {}, #[], {}, 236, os⟩ : SharedT) (piecesOf sts88 env41 cE ⟨5, 0, 13, 35⟩ [topFrame ⟨0, 0, 0, 0⟩])) =
    fun os => some (.next, (⟨tree102 w.params, 63, {}, #[], {}, 254, os⟩ : SharedT), cE, ⟨16, 0, 16, 8⟩) := by
  rw [PySem.W.Fast.te10110043849684766642, PySem.W.Fast.te14364793385576792824]
  kernel_rfl
theorem piece3 (w : World) : (fun os => segRunT treeTable PG w 11 (some (.ref 6)) 1 256 (⟨tree102 w.params, 63, {}, #[], {}, 254, os⟩ : SharedT) (piecesOf sts103 env41 cE ⟨16, 0, 16, 8⟩ [topFrame ⟨0, 0, 0, 0⟩])) =
    fun os => some (.next, (⟨tree132 w.params, 91, {}, #[], {}, 292, os⟩ : SharedT), cE, ⟨17, 0, 24, 37⟩) := by
  rw [PySem.W.Fast.te10110043849684766642, PySem.W.Fast.te14364793385576792824]
  kernel_rfl
theorem piece4 (w : World) : (fun os => segRunT treeTable PG w 11 (some (.ref 6)) 1 366 (⟨tree132 w.params, 91, {}, #[], {}, 292, os⟩ : SharedT) (piecesOf sts133 env41 cE ⟨17, 0, 24, 37⟩ [topFrame ⟨0, 0, 0, 0⟩])) =
    fun os => some (.next, (⟨tree181 w.params, 138, {}, #[], {}, 370, os⟩ : SharedT), cE, ⟨25, 0, 62, 103⟩) := by
  rw [PySem.W.Fast.te10110043849684766642, PySem.W.Fast.te14364793385576792824]
  kernel_rfl
theorem piece5 (w : World) : (fun os => segRunT treeTable PG w 11 (some (.ref 6)) 1 395 (⟨tree181 w.params, 138, {}, #[], {}, 370, os⟩ : SharedT) (piecesOf sts182 env41 cE ⟨25, 0, 62, 103⟩ [topFrame ⟨0, 0, 0, 0⟩])) =
    fun os => some (.next, (⟨tree235 w.params, 190, {}, #[], {}, 449, os⟩ : SharedT), cE, ⟨106, 0, 106, 8⟩) := by
  rw [PySem.W.Fast.te10110043849684766642, PySem.W.Fast.te14364793385576792824]
  kernel_rfl
theorem piece6 (w : World) : (fun os => segRunT treeTable PG w 11 (some (.ref 6)) 1 398 (⟨tree235 w.params, 190, {}, #[], {}, 449, os⟩ : SharedT) (piecesOf sts236 env41 cE ⟨106, 0, 106, 8⟩ [topFrame ⟨0, 0, 0, 0⟩])) =
    fun os => some (.next, (⟨tree286 w.params, 239, {}, #[], {}, 540, os⟩ : SharedT), cE, ⟨152, 0, 157, 87⟩) := by
  rw [PySem.W.Fast.te10110043849684766642, PySem.W.Fast.te14364793385576792824]
  kernel_rfl
theorem piece7 (w : World) : (fun os => segRunT treeTable PG w 11 (some (.ref 6)) 1 90 (⟨tree286 w.params, 239, {}, #[], {}, 540, os⟩ : SharedT) (piecesOf sts287 env41 cE ⟨152, 0, 157, 87⟩ [topFrame ⟨0, 0, 0, 0⟩])) =
    fun os => some (.next, (⟨tree307 w.params, 258, {}, #[], {}, 565, os⟩ : SharedT), cE, ⟨182, 0, 204, 98⟩) := by
  rw [PySem.W.Fast.te10110043849684766642, PySem.W.Fast.te14364793385576792824]
  kernel_rfl
theorem pieceE (w : World) : (fun os => topRun treeTable PG w 11 (some (.ref 6)) 2 (⟨tree307 w.params, 258, {}, #[], {}, 565, os⟩ : SharedT).abs ⟨doneF .next, cE, ⟨182, 0, 204, 98⟩, [topFrame ⟨0, 0, 0, 0⟩]⟩) =
    fun os => some ⟨heap308 w.params, #[], {}, 565, os⟩ := by
  kernel_rfl
theorem pieceS (w : World) : ((boot_heap w.params).isNs mainGlobals && (#[] : Array GenState).size == 0, (boot_heap w.params).objs.size, (boot_heap w.params).nsMap mainGlobals "__annotations__") = (true, 11, some (.ref 6)) := by
  kernel_rfl
theorem look1 (w : World) : (fun os => (staticsOk (importedModules PG.main.body) (boot_heap w.params) (heap308 w.params) && namesBound PG (heap308 w.params) && gensDone ⟨heap308 w.params, #[], {}, 565, os⟩ && laidKept (boot_heap w.params) (heap308 w.params))) = fun _ => true := by
  kernel_rfl
theorem look2 (w : World) : (fun os => openSeen view39 [Str.ofString "LedgerError"] (importedModules PG.main.body) (fun s => xlAt view39 [] s && recOk (RowW.records PySem.Challenge.rw_og0080_01.row.toRowW) s) true ⟨heap308 w.params, #[], {}, 565, os⟩) = fun _ => openGood view39 [Str.ofString "LedgerError"] := by
  kernel_rfl
theorem as39_eq (P : Params) : as39 = (heap39 P).map (·.1) := by kernel_rfl
theorem look3 (w : World) : (fun os => (kmHook heap39 as39 as39_eq [221]).obs ⟨heap308 w.params, #[], {}, 565, os⟩) = fun _ => (kmHook heap39 as39 as39_eq [221]).val w := by
  kernel_rfl
/-- the top, piece by piece -/
theorem top_run (w : World) (os : OsState) : topRun treeTable PG w 11 (some (.ref 6)) (12 + (1 + (305 + (223 + (256 + (366 + (395 + (398 + (90 + 2)))))))))  ⟨boot_heap w.params, #[], boot_drawn, boot_toks, os⟩ (topStub PG) = some ⟨heap308 w.params, #[], {}, 565, os⟩ :=
  go_top (congrFun (piece0 w) os) (piece_block (env := env41) (b := behindTheImports PG) (congrFun (pieceB w) os)
    (piece_app (l := sts49) (segRun_of (congrFun (piece1 w) os)) (piece_app (l := sts88) (segRun_of (congrFun (piece2 w) os)) (piece_app (l := sts103) (segRun_of (congrFun (piece3 w) os)) (piece_app (l := sts133) (segRun_of (congrFun (piece4 w) os))
      (piece_app (l := sts182) (segRun_of (congrFun (piece5 w) os)) (piece_app (l := sts236) (segRun_of (congrFun (piece6 w) os)) (piece_app (l := sts287) (rest := []) (segRun_of (congrFun (piece7 w) os)) (piece_nil (congrFun (pieceE w) os))))))))))
theorem open39 : opening PG = plainProg PG.main.scope.names := by kernel_rfl
theorem fence39 (s : Shared) : fenceModules? PG s = some s := by
  rw [PySem.W.Fast.te14289696077712309145]
  kernel_rfl
theorem left39 : LeftO PG view39 [Str.ofString "LedgerError"] (fun s => xlAt view39 [] s && recOk (RowW.records PySem.Challenge.rw_og0080_01.row.toRowW) s) (Hook.obs (kmHook heap39 as39 as39_eq [221])) (Hook.val (kmHook heap39 as39 as39_eq [221])) 4178 :=
  LeftO.of_pieces (H₀ := boot_heap) (H₁ := heap308) (gs₀ := #[]) (gs₁ := #[]) (d₀ := boot_drawn) (d₁ := {}) (k₀ := boot_toks) (k₁ := 565) (m₀ := 11) (ann := some (.ref 6)) (M := 12 + (1 + (305 + (223 + (256 + (366 + (395 + (398 + (90 + 2)))))))))
    (boot_open open39 (by decide) fence39) pieceS top_run (by decide)
    (fun w => funext fun os => looks_pair (congrFun (look1 w) os) (looks_pair (congrFun (look2 w) os) (congrFun (look3 w) os)))
abbrev LW : OpenLaw := PySem.Challenge.rw_og0080_01
theorem l1 : sreFenced PG.main = true := by kernel_rfl
theorem l2 : ((moduleNames PG.main.body).isEmpty || lookedIntoSs (moduleNames PG.main.body) PG.main.body) = true := by kernel_rfl
theorem l3 : namesResolve PG = true := by
  rw [PySem.W.Fast.te8377067652309620493]
  kernel_rfl
theorem l4 : PG.boundNames.all (fun n => !worldNames.contains n) = true := by kernel_rfl
theorem l5 : noRoadLSs { strict := !(importedModules PG.main.body).all cThrough.contains, foot := none, bare := (["vars", "dir", "locals"] : List Str).filter (readsOut PG PG.main.body) } PG.main.body = true := by
  rw [PySem.W.Fast.te8326940854005059898]
  kernel_rfl
theorem l6 : (namesMeet PG PG.main.body fun _ n => attrL n) = true := by
  rw [PySem.W.Fast.te17119622794617984870]
  kernel_rfl
theorem looks39 : looksOpen PG = true := look_both (look_both (look_both (look_both (look_both l1 l2) l3) l4) l5) l6
theorem part39 : LW.row.partSaid = true :=
  look_both (look_both (look_both (look_both (look_both (look_both (look_both (look_both (look_both (look_both (look_both (look_both (look_both looks39 rfl) rfl) rfl) rfl) (by decide)) rfl) (by kernel_rfl)) (by kernel_rfl)) (by kernel_rfl)) rfl) rfl) rfl) rfl
theorem row39 : LW.row.wellSaid = true := look_both (look_both part39 (by kernel_rfl)) (by kernel_rfl)
theorem s4 : noRoadLSs { strict := true, foot := some LW.bound', writes := LW.writes, may := LW.may } LW.footing = true := by
  rw [PySem.W.Fast.te8326940854005059898]
  kernel_rfl
theorem s8 : LW.bound'.all (fun n => !builtinNamed n || LW.about == [n] || !LW.reads n) = true := by kernel_rfl
theorem s11 : namesMeet LW.prog LW.footing (fun sc n => (!(["type", "isinstance", "issubclass", "getattr", "hasattr"] : List Str).contains n || sc.names.lookup n == some .globalImplicit) &&
    (LW.may != some n || sc.kind == .module || sc.names.lookup n == some .globalImplicit)) = true := by
  rw [PySem.W.Fast.te17119622794617984870]
  kernel_rfl
theorem s13 : LW.own.all (fun n => !builtinNamed n) = true := by kernel_rfl
theorem s14 : namesMeet LW.prog LW.above (fun _ n => !LW.own.contains n) = true := by
  rw [PySem.W.Fast.te17119622794617984870]
  kernel_rfl
theorem s15 : (namesMeet LW.prog LW.footing fun sc n => sc.kind == .module || sc.names.lookup n != some .globalExplicit) = true := by
  rw [PySem.W.Fast.te17119622794617984870]
  kernel_rfl
theorem said39 : LW.wellSaid = true :=
  look_both (look_both (look_both (look_both (look_both (look_both (look_both (look_both (look_both (look_both (look_both (look_both (look_both (look_both (look_both (look_both (look_both (look_both
    row39 (by kernel_rfl)) (by kernel_rfl)) (by kernel_rfl)) (by kernel_rfl)) (by kernel_rfl)) s4) (by kernel_rfl)) (by kernel_rfl)) (by kernel_rfl)) s8) (by kernel_rfl)) (by kernel_rfl)) s11) (by kernel_rfl)) (by kernel_rfl)) s13) s14) s15
theorem chains39 : chainsOk view39 = true := by kernel_rfl
theorem opens39 : opensWell PG = true := by kernel_rfl
theorem frees39 : (frees PySem.Challenge.rw_og0080_01.row.toRowW && PySem.Challenge.rw_og0080_01.row.within.isEmpty) = true := by kernel_rfl
theorem def39 : defOf view39 (Str.ofString "law") = some ({ name := Str.ofString "law", params := paramsOf (topStmt 23), body := bodyOf (topStmt 23), scope := scopeOf (topStmt 23), pos := ⟨182, 0, 204, 98⟩ }, []) := by kernel_rfl
theorem the39 : PG.theDef (Str.ofString "law") = some (paramsOf (topStmt 23), bodyOf (topStmt 23), scopeOf (topStmt 23)) := by kernel_rfl
theorem head (walk : WalkO view39 [Str.ofString "LedgerError"] (XL view39 []) (kmHook heap39 as39 as39_eq [221]).says PySem.Challenge.rw_og0080_01.row.toRowW { name := Str.ofString "law", params := paramsOf (topStmt 23), body := bodyOf (topStmt 23), scope := scopeOf (topStmt 23), pos := ⟨182, 0, 204, 98⟩ } [] fun f vs => PySem.call f vs) : PySem.Challenge.rw_og0080_01.Holds := by
  refine holds_law said39 fun said => ?_
  refine holds_open (q := view39) (loose := [Str.ofString "LedgerError"]) (Xt := fun s => xlAt view39 [] s && recOk (RowW.records PySem.Challenge.rw_og0080_01.row.toRowW) s) (XP := XL view39 []) (Yf := Hook.obs (kmHook heap39 as39 as39_eq [221])) (Ya := Hook.val (kmHook heap39 as39 as39_eq [221])) (YP := Hook.says (kmHook heap39 as39 as39_eq [221])) (N := 4178) (d := { name := Str.ofString "law", params := paramsOf (topStmt 23), body := bodyOf (topStmt 23), scope := scopeOf (topStmt 23), pos := ⟨182, 0, 204, 98⟩ }) (kwd := []) left39 (Hook.of (kmHook heap39 as39 as39_eq [221])) (Hook.keeps (kmHook heap39 as39 as39_eq [221]))
    (fun s e => xl_of s (Bool.and_eq_true_iff.mp e).1) XL.keeps def39 the39 (by kernel_rfl) (fun s e => recFacts_of (Bool.and_eq_true_iff.mp e).2) (by kernel_rfl) said (look_both (look_both chains39 opens39 : (chainsOk view39 && opensWell PG) = true) frees39 |> fun h => by rw [← Bool.and_assoc]; exact h) ⟨rfl, rfl, rfl, rfl, rfl, by decide +kernel⟩ ?hw walk
  case hw => exact ⟨[.list []], by decide +kernel, by decide +kernel⟩
end Mine
end
section
open PySem PySem.W PyProof.Rows
namespace Mine
def takeStmt : Stmt := nth (bodyOf (topStmt 18)) 3
def IsDef (st : Stmt) (name : Str) (params : Arguments) (body : List Stmt) (scope : Scope) : Prop :=
  ∃ dl ret tp ts b pos, st = .FunctionDef name params body dl ret tp scope ts b pos

def TakeIn (R : List (Addr × Obj)) (tk pl : Addr) (cs : List Int) : Prop :=
  ∃ params body scope dc pm c' ct oc vs t c1 c2 o1 o2 D ws,
    IsDef takeStmt (Str.ofString "take") params body scope ∧
    (tk, fnMade (Str.ofString "take") (Str.ofString "_law_taker.<locals>.take") params body scope [(Str.ofString "place", c1), (Str.ofString "cells", c2)] dc pm c' ct) ∈ R ∧
    (c', oc) ∈ R ∧ oc.data = .fields vs ∧ vs[1]? = some (.str (Str.ofString "_law_taker.<locals>.take") t) ∧
    (c1, o1) ∈ R ∧ o1.data = .cell (some (.ref pl)) ∧ (c2, o2) ∈ R ∧ o2.data = .cell (some (.ref D)) ∧
    (D, W.listOf ws.toArray 0) ∈ R ∧ IntsAre ws cs ∧ 0 < cs.length ∧ cs.length ≤ 40
end Mine
end
section
open PySem PySem.W PySem.Calls PyProof.Rows
namespace Mine
/-- the state besides heap and tokens is the same -/
def Same (s s' : Shared) : Prop := s'.gens = s.gens ∧ s'.drawn = s.drawn ∧ s'.os = s.os
theorem Same.refl {s : Shared} : Same s s := ⟨rfl, rfl, rfl⟩
theorem Same.trans {s s' s'' : Shared} (a : Same s s') (b : Same s' s'') : Same s s'' := ⟨b.1.trans a.1, b.2.1.trans a.2.1, b.2.2.trans a.2.2⟩
theorem Same.eq {s s' : Shared} (a : Same s s') : s' = { s with heap := s'.heap, toks := s'.toks } := by
  obtain ⟨h, g, d, t, o⟩ := s; obtain ⟨h', g', d', t', o'⟩ := s'
  obtain ⟨a, b, c⟩ := a
  simp only at a b c
  subst a b c; rfl
section
variable {prog : Program} {w : World} {A : Around} {E : Value → Shared → Prop} {s : Shared} {h₀ : Heap} {L D : Addr} {m : Str → Option Value} {news news' : List (Addr × Obj)}
/-- an item of a list of the ledger at a known place -/
theorem sub_at {value slice : PySem.Expr} {vs : List Value} {n : Nat} {i : Int} {t : Tok} {v : Value} {Q : Value → Shared → Prop} (N : News h₀ L s.heap news) (hm : (D, W.listOf vs.toArray n) ∈ news) (h0 : 0 ≤ i) (h1 : i < 2 ^ 63)
    (hx : vs[i.toNat]? = some v) (h : Q v s) (hs : subscripted slice false (.ref D) (.int i t) = operate [.ref D, .int i t] (getItem (.ref D) (.int i t)) := by with_unfolding_all rfl) :
    wpAny (model prog w) A (subscriptTail value slice (.ref D) (.int i t)) Q E s :=
  tail_any (PySem.IsL.isList (n := n) (N _ hm).1).typeIs slot_list_getitem.lookup (wpAny_getItem_list (PySem.IsL.isList (n := n) (N _ hm).1) h0 h1 (by simpa using hx) h) hs
theorem set_at {vs vs' : List Value} {n n' : Nat} {i : Int} {t : Tok} {v : Value} {Q : Unit → Shared → Prop} (F : Fr h₀ L s.heap m) (N : News h₀ L s.heap news) (U : Upd D (W.listOf vs.toArray n) (W.listOf vs'.toArray n) news news') (h0 : 0 ≤ i) (h1 : i < 2 ^ 63)
    (hx : i < vs.length) (he : vs.set i.toNat v = vs') (h : ∀ s', Same s s' → Fr h₀ L s'.heap m → News h₀ L s'.heap news' → Q () s') :
    wpAny (model prog w) A (setItem (.ref D) (.int i t) v) Q E s := by
  subst he
  obtain ⟨pre, post, rfl, rfl, a, b⟩ := U.split
  have z := N (D, W.listOf vs.toArray n) (List.mem_append.mpr (.inr (.head _)))
  refine ki_setAt z.1 h0 h1 (by simpa using hx) (h _ ⟨rfl, rfl, rfl⟩ (F.change (Heap.SameBut.update ..) z.2.1 z.2.2) (ki_turn _ N a b ?_ ?_))
  · apply Array.toList_inj.mp; simp
  · simp
end
theorem news_drop3 {h₀ h : Heap} {L : Addr} {x a b c : Addr × Obj} {R : List (Addr × Obj)} (N : News h₀ L h (x :: a :: b :: c :: R)) : News h₀ L h (x :: R) := by
  intro q hq
  rcases List.mem_cons.mp hq with rfl | hq
  · exact N _ (.head _)
  · exact N _ (.tail _ (.tail _ (.tail _ (.tail _ hq))))
theorem news_add3 {h₀ h : Heap} {L : Addr} {x a b c : Addr × Obj} {R : List (Addr × Obj)} (N : News h₀ L h (x :: R)) (ha : a ∈ R) (hb : b ∈ R) (hc : c ∈ R) : News h₀ L h (x :: a :: b :: c :: R) := by
  intro q hq
  simp only [List.mem_cons] at hq
  rcases hq with rfl | rfl | rfl | rfl | hq
  · exact N _ (.head _)
  · exact N _ (.tail _ ha)
  · exact N _ (.tail _ hb)
  · exact N _ (.tail _ hc)
  · exact N _ (.tail _ hq)
theorem pow_bits {n : Nat} (h : n ≤ 400) : ((720720 : Int) ^ n).natAbs.log2 < 9000 := by
  rw [Int.natAbs_pow]
  show (720720 ^ n).log2 < 9000
  have h1 : 720720 ^ n ≤ (2 ^ 20) ^ n := Nat.pow_le_pow_left (by decide) n
  rw [← Nat.pow_mul] at h1
  have h2 : 2 ^ (20 * n) < 2 ^ 8001 := Nat.pow_lt_pow_right (by decide) (by omega)
  have h3 : (720720 ^ n).log2 < 8001 := (Nat.log2_lt (Nat.ne_of_gt (Nat.pow_pos (by decide)))).mpr (Nat.lt_of_le_of_lt h1 h2)
  omega
theorem fdiv_bd {k : Int} {n : Nat} (h0 : 0 ≤ k) (h1 : k ≤ 400) (hn : 0 < n) : 0 ≤ k.fdiv (n : Int) ∧ k.fdiv (n : Int) ≤ 400 := by
  rw [Int.fdiv_eq_ediv_of_nonneg k (by omega)]
  refine ⟨Int.ediv_nonneg h0 (by omega), Int.le_trans (Int.ediv_le_self _ h0) h1⟩
end Mine
end
section
open PySem PySem.W PySem.Calls PyProof.Rows
namespace Mine
/-- the entries of an instance's dict: names, values, the keys' tokens -/
def entsD (P : Params) (tf : Nat → Tok) : List (Str × Value) → List DictEntry
  | [] => []
  | (a, v) :: r => ⟨PyData.keyHash P a, .str a (tf 0), v⟩ :: entsD P (fun i => tf (i + 1)) r
def putV (a : Str) (v : Value) : List (Str × Value) → List (Str × Value)
  | [] => [(a, v)]
  | (b, u) :: r => if b == a then (b, v) :: r else (b, u) :: putV a v r
theorem isStr_str (a b : Str) (t : Tok) : (Value.str a t).isStr b = (a == b) := rfl
theorem getL_ents (P : Params) (a : Str) : ∀ (vs : List (Str × Value)) (tf : Nat → Tok), getL a (entsD P tf vs) = some (vs.lookup a)
  | [], _ => rfl
  | (b, u) :: r, tf => by
    have ih := getL_ents P a r (fun i => tf (i + 1))
    unfold getL at ih ⊢
    simp only [entsD, List.find?_cons, isStr_str, List.lookup_cons]
    by_cases h : b = a
    · subst h; simp
    · have h1 : (b == a) = false := by simpa using h
      have h2 : (a == b) = false := by simpa using fun e => h e.symm
      rw [h1, h2]
      simp only
      cases hf : List.find? (fun x => x.key.isStr a) (entsD P (fun i => tf (i + 1)) r) with
      | some e => rw [hf] at ih; exact ih
      | none =>
        rw [hf] at ih
        simp only at ih ⊢
        have hk : (⟨PyData.keyHash P b, .str b (tf 0), u⟩ : DictEntry).refKey = false := rfl
        simp only [List.any_cons, hk, Bool.false_or]
        exact ih
theorem any_ents (P : Params) (a : Str) : ∀ (vs : List (Str × Value)) (tf : Nat → Tok), (entsD P tf vs).any (·.key.isStr a) = (vs.lookup a).isSome
  | [], _ => rfl
  | (b, u) :: r, tf => by
    have ih := any_ents P a r (fun i => tf (i + 1))
    simp only [entsD, List.any_cons, isStr_str, List.lookup_cons]
    by_cases h : b = a
    · subst h; simp
    · have h1 : (b == a) = false := by simpa using h
      have h2 : (a == b) = false := by simpa using fun e => h e.symm
      rw [h1, h2, Bool.false_or]; exact ih
theorem putL_ents (P : Params) (a : Str) (v : Value) (t : Tok) : ∀ (vs : List (Str × Value)) (tf : Nat → Tok), ∃ tf', putL a (PyData.keyHash P a) (.str a t) v (entsD P tf vs) = entsD P tf' (putV a v vs)
  | [], tf => ⟨fun _ => t, rfl⟩
  | (b, u) :: r, tf => by
    obtain ⟨tf', e⟩ := putL_ents P a v t r (fun i => tf (i + 1))
    refine ⟨fun i => match i with | 0 => tf 0 | i + 1 => if b == a then tf (i + 1) else tf' i, ?_⟩
    simp only [entsD, putL, isStr_str, putV]
    by_cases h : (b == a) = true
    · simp [h, entsD]
    · simp only [h, if_false, Bool.false_eq_true, entsD, List.cons.injEq, true_and]
      exact e
theorem len_ents (P : Params) : ∀ (vs : List (Str × Value)) (tf : Nat → Tok), (entsD P tf vs).length = vs.length
  | [], _ => rfl
  | _ :: r, tf => by simp only [entsD, List.length_cons, len_ents P r]
theorem len_putV (a : Str) (v : Value) : ∀ vs : List (Str × Value), (putV a v vs).length ≤ vs.length + 1
  | [] => Nat.le_refl _
  | (b, u) :: r => by
    have := len_putV a v r
    unfold putV
    split <;> simp only [List.length_cons] <;> omega

section
variable {prog : Program} {w : World} {A : Around} {E : Value → Shared → Prop} {s : Shared} {K : Frag} {x C dx L : Addr} {h₀ : Heap} {m : Str → Option Value} {news : List (Addr × Obj)} {news' : (Nat → Tok) → List (Addr × Obj)} {n : Nat} {name : Str} {v : Value} {tf : Nat → Tok} {vs : List (Str × Value)}
/-- what the class says of a plain attribute -/
def plainAttr (K : Frag) (C : Addr) (name : Str) : Bool :=
  plainGet K C name && hasDictIn K C && (match findIn K (.ref C) name with | some attr => noGet K attr | none => false) &&
  (findIn K (.ref C) "__setattr__" == some (some (.builtin "object.__setattr__"))) && plainOver K C && (takerIn K C name == some none)
theorem plainAttr_of (h : plainAttr K C name = true) : plainGet K C name = true ∧ hasDictIn K C = true ∧ (∃ attr, findIn K (.ref C) name = some attr ∧ noGet K attr = true) ∧
    findIn K (.ref C) "__setattr__" = some (some (.builtin "object.__setattr__")) ∧ plainOver K C = true ∧ takerIn K C name = some none := by
  unfold plainAttr at h
  simp only [Bool.and_eq_true, beq_iff_eq] at h
  obtain ⟨⟨⟨⟨⟨a, b⟩, c⟩, d⟩, e⟩, f⟩ := h
  refine ⟨a, b, ?_, d, e, f⟩
  split at c
  · rename_i attr q; exact ⟨attr, q, c⟩
  · cases c
theorem get_rec {expr : Bool} {Q : Value → Shared → Prop} (F : Fr h₀ L s.heap m) (X₀ : K.In h₀) (N : News h₀ L s.heap news) (h1 : (x, instObj C dx) ∈ news) (h2 : (dx, dictOf (entsD w.params tf vs) n) ∈ news)
    (hp : plainAttr K C name = true) (hl : vs.lookup name = some v) (hv : handedIn v = true) (h : Q v { s with toks := s.toks + 1 }) : wpAny (model prog w) A (getAttr (.ref x) name expr) Q E s := by
  obtain ⟨a, b, ⟨attr, c, d⟩, _⟩ := plainAttr_of hp
  exact get_own F X₀ (InstAt.of_news N h1 h2) a b c d (by rw [getL_ents, hl]) hv h
theorem set_rec {Q : Unit → Shared → Prop} (F : Fr h₀ L s.heap m) (X₀ : K.In h₀) (N : News h₀ L s.heap news) (h1 : (x, instObj C dx) ∈ news) (h2 : (dx, dictOf (entsD w.params tf vs) n) ∈ news)
    (hp : plainAttr K C name = true) (hz : vs.length < 1000)
    (U : ∀ tf', Upd dx (dictOf (entsD w.params tf vs) n) (dictOf (entsD w.params tf' (putV name v vs)) (if (vs.lookup name).isSome then n else n + 1)) news (news' tf'))
    (h : ∀ h' tf', Fr h₀ L h' m → News h₀ L h' (news' tf') → Q () { s with heap := h', toks := s.toks + 2 }) : wpAny (model prog w) A (setAttr (.ref x) name v) Q E s := by
  obtain ⟨_, b, _, d, e, f⟩ := plainAttr_of hp
  obtain ⟨tf', e'⟩ := putL_ents w.params name v (s.toks + 1) vs tf
  refine set_dict F X₀ N (InstAt.of_news N h1 h2) rfl d e f b (by rw [getL_ents]; rfl) (by rw [e', putN, any_ents]) (U tf') (by rw [len_ents]; have := len_putV name v vs; omega) fun h' F' N' => h h' tf' F' N'
end

/-- what an __init__ stores: a name, a constant, an empty list, an empty dict, an empty tuple -/
inductive IV | name (x : Str) | cst (c : Const) | nil | dct | tup
/-- the statements of an __init__ and what they store -/
inductive Ini (sn : Str) : List Stmt → List (Str × IV) → Prop
  | done : Ini sn [] []
  | name {p1 a p2 y p3 p4 r l} : Ini sn r l → Ini sn (.Assign [.Attribute (.Name sn p1) a p2] (.Name y p3) p4 :: r) ((a, .name y) :: l)
  | cst {p1 a p2 c k p3 p4 r l} : Ini sn r l → Ini sn (.Assign [.Attribute (.Name sn p1) a p2] (.Constant c k p3) p4 :: r) ((a, .cst c) :: l)
  | nil {p1 a p2 p3 p4 r l} : Ini sn r l → Ini sn (.Assign [.Attribute (.Name sn p1) a p2] (.List [] p3) p4 :: r) ((a, .nil) :: l)
  | dct {p1 a p2 p3 p4 r l} : Ini sn r l → Ini sn (.Assign [.Attribute (.Name sn p1) a p2] (.Dict [] [] p3) p4 :: r) ((a, .dct) :: l)
  | tup {p1 a p2 k p3 p4 r l} : Ini sn r l → Ini sn (.Assign [.Attribute (.Name sn p1) a p2] (.Tuple [] k p3) p4 :: r) ((a, .tup) :: l)
abbrev tupOf (vs : List Value) : Obj := { cls := .type "tuple", data := .seq vs.toArray }
def InitWP (m : Str → Option Value) : List (Str × IV) → (List (Str × Value) → List (Addr × Obj) → Prop) → Prop
  | [], k => k [] []
  | (a, .name y) :: r, k => ∀ v, m y = some v → InitWP m r fun vs os => k ((a, v) :: vs) os
  | (a, .cst (.str z)) :: r, k => ∀ t, InitWP m r fun vs os => k ((a, .str z t) :: vs) os
  | (a, .cst (.int z)) :: r, k => ∀ t, InitWP m r fun vs os => k ((a, .int z t) :: vs) os
  | (a, .cst (.bool z)) :: r, k => InitWP m r fun vs os => k ((a, .bool z) :: vs) os
  | (a, .cst .none) :: r, k => InitWP m r fun vs os => k ((a, .none) :: vs) os
  | (_, .cst _) :: _, _ => False
  | (a, .nil) :: r, k => ∀ l, InitWP m r fun vs os => k ((a, .ref l) :: vs) ((l, W.listOf #[] 0) :: os)
  | (a, .dct) :: r, k => ∀ l, InitWP m r fun vs os => k ((a, .ref l) :: vs) ((l, dictOf [] 0) :: os)
  | (a, .tup) :: r, k => ∀ l, InitWP m r fun vs os => k ((a, .ref l) :: vs) ((l, tupOf []) :: os)
def Incr : Addr → List (Addr × Obj) → Prop
  | _, [] => True
  | b, p :: r => b < p.1 ∧ Incr p.1 r
def lastA : Addr → List (Addr × Obj) → Addr
  | b, [] => b
  | _, p :: r => lastA p.1 r
theorem incr_snoc {q : Addr × Obj} : ∀ {os : List (Addr × Obj)} {b : Addr}, Incr b os → lastA b os < q.1 → Incr b (os ++ [q])
  | [], _, _, h => ⟨h, trivial⟩
  | _ :: _, _, h1, h => ⟨h1.1, incr_snoc h1.2 h⟩
theorem incr_gt : ∀ {os : List (Addr × Obj)} {b : Addr}, Incr b os → ∀ p ∈ os, b < p.1
  | [], _, _, _, hp => (nomatch hp)
  | q :: r, b, h, p, hp => by
    rcases List.mem_cons.mp hp with rfl | hp
    · exact h.1
    · exact Nat.lt_trans h.1 (incr_gt h.2 p hp)
theorem lastA_lt {d : Addr} : ∀ {os : List (Addr × Obj)} {b : Addr}, b < d → (∀ p ∈ os, p.1 < d) → lastA b os < d
  | [], _, h, _ => h
  | q :: r, _, _, h => lastA_lt (os := r) (b := q.1) (h q (.head _)) fun p hp => h p (.tail _ hp)
theorem news_move {h₀ h : Heap} {L : Addr} {q : Addr × Obj} {os r : List (Addr × Obj)} (N : News h₀ L h (q :: (os ++ r))) : News h₀ L h ((os ++ [q]) ++ r) := by
  intro p hp
  refine N p ?_
  simp only [List.append_assoc, List.singleton_append, List.mem_append, List.mem_cons] at hp ⊢
  rcases hp with hp | hp | hp
  · exact .inr (.inl hp)
  · exact .inl hp
  · exact .inr (.inr hp)
def locOk (cs : Scope) (x : Str) : Bool := cs.names.lookup x == some .local && !(x == ("__debug__" : Str))
def namesOk (cs : Scope) (m : Str → Option Value) (l : List (Str × IV)) : Bool := l.all fun q => match q.2 with | .name x => locOk cs x && (m x).isSome | _ => true
theorem names_tail {cs : Scope} {m : Str → Option Value} {q : Str × IV} {l : List (Str × IV)} (h : namesOk cs m (q :: l) = true) : namesOk cs m l = true := by
  unfold namesOk at h ⊢
  rw [List.all_cons] at h
  exact (Bool.and_eq_true_iff.mp h).2
theorem names_head {cs : Scope} {m : Str → Option Value} {a y : Str} {l : List (Str × IV)} (h : namesOk cs m ((a, .name y) :: l) = true) : (locOk cs y && (m y).isSome) = true := by
  unfold namesOk at h
  rw [List.all_cons] at h
  exact (Bool.and_eq_true_iff.mp h).1
theorem locOk_of {cs : Scope} {x : Str} (h : locOk cs x = true) : cs.names.lookup x = some .local ∧ (x == ("__debug__" : Str)) = false := by
  unfold locOk at h
  simp only [Bool.and_eq_true, beq_iff_eq, Bool.not_eq_true'] at h
  exact h
theorem putV_new {a : Str} {v : Value} : ∀ {vs : List (Str × Value)}, vs.lookup a = none → putV a v vs = vs ++ [(a, v)]
  | [], _ => rfl
  | (b, u) :: r, h => by
    simp only [List.lookup_cons] at h
    unfold putV
    by_cases e : b = a
    · subst e; simp at h
    · have h1 : (b == a) = false := by simpa using e
      have h2 : (a == b) = false := by simpa using fun q => e q.symm
      rw [h2] at h
      rw [h1]
      simp [putV_new h]
theorem lookup_none {a : Str} : ∀ {vs : List (Str × Value)}, a ∉ vs.map (·.1) → vs.lookup a = none
  | [], _ => rfl
  | (b, u) :: r, h => by
    simp only [List.map_cons, List.mem_cons, not_or] at h
    have h2 : (a == b) = false := by simpa using h.1
    rw [List.lookup_cons, h2]
    exact lookup_none h.2
theorem fresh_of {at' : Str} {iv : IV} {vs : List (Str × Value)} {l : List (Str × IV)} (hnd : (vs.map (·.1) ++ ((at', iv) :: l).map (·.1)).Nodup) : at' ∉ vs.map (·.1) := fun hm =>
  (List.nodup_append.mp hnd).2.2 _ hm _ (.head _) rfl
theorem nodup_next {at' : Str} {iv : IV} {v : Value} {vs : List (Str × Value)} {l : List (Str × IV)} (hnd : (vs.map (·.1) ++ ((at', iv) :: l).map (·.1)).Nodup) : ((vs ++ [(at', v)]).map (·.1) ++ l.map (·.1)).Nodup := by
  rw [List.map_append, List.append_assoc]; exact hnd
theorem upd_mid {dx : Addr} {o o' : Obj} {objs : List (Addr × Obj)} {q : Addr × Obj} {news : List (Addr × Obj)} (h1 : ∀ p ∈ objs, p.1 ≠ dx) (h2 : q.1 ≠ dx) (h3 : ∀ p ∈ news, p.1 ≠ dx) :
    Upd dx o o' (objs ++ q :: (dx, o) :: news) (objs ++ q :: (dx, o') :: news) := by
  induction objs with
  | nil => exact .tail h2 (.head h3)
  | cons p r ih => exact .tail (h1 p (.head _)) (ih fun p hp => h1 p (.tail _ hp))
section
variable {w : World} {A : Around} {E : Value → Shared → Prop} {K : Frag} {x C dx L a : Addr} {h₀ : Heap} {m : Str → Option Value} {news : List (Addr × Obj)} {cn : Str} {cs : Scope} {cd : Value} {sn : Str} {Q : Flow → Shared → Prop} {prog : Program}
theorem news_assoc0 {P : Params} {h : Heap} {os os' : List (Addr × Obj)} {vs vs' : List (Str × Value)} {q : Str × Value} {o : Addr × Obj} {tf : Nat → Tok} (N : News h₀ L h ((os ++ os') ++ o :: (dx, dictOf (entsD P tf ((vs ++ [q]) ++ vs')) ((vs ++ [q]) ++ vs').length) :: news)) :
    News h₀ L h ((os ++ os') ++ o :: (dx, dictOf (entsD P tf (vs ++ q :: vs')) (vs ++ q :: vs').length) :: news) := by
  rw [List.append_assoc vs] at N; exact N
theorem news_assoc {P : Params} {h : Heap} {os os' : List (Addr × Obj)} {vs vs' : List (Str × Value)} {q : Str × Value} {o p : Addr × Obj} {tf : Nat → Tok} (N : News h₀ L h (((os ++ [p]) ++ os') ++ o :: (dx, dictOf (entsD P tf ((vs ++ [q]) ++ vs')) ((vs ++ [q]) ++ vs').length) :: news)) :
    News h₀ L h ((os ++ p :: os') ++ o :: (dx, dictOf (entsD P tf (vs ++ q :: vs')) (vs ++ q :: vs').length) :: news) := by
  rw [List.append_assoc os] at N; exact news_assoc0 N
/-- one store: the new objects `ob` stand already, the value is at hand -/
theorem init_store (hk : cs.kind = .function) (X₀ : K.In h₀) (hself : m sn = some (.ref x)) (hsn : locOk cs sn = true) (hlt : ∀ p ∈ news, p.1 < dx) (hdx : dx < x) {at' : Str} {v : Value} {vs : List (Str × Value)} {tf : Nat → Tok} {os : List (Addr × Obj)} {s : Shared} {np : Pos} {Z : Shared → Prop}
    (hpl : plainAttr K C at' = true) (hfresh : at' ∉ vs.map (·.1)) (hlen : vs.length < 999) (F : Fr h₀ L s.heap m) (N : News h₀ L s.heap (os ++ (x, instObj C dx) :: (dx, dictOf (entsD w.params tf vs) vs.length) :: news)) (hi : Incr x os)
    (h : ∀ h' tk tf', Fr h₀ L h' m → News h₀ L h' (os ++ (x, instObj C dx) :: (dx, dictOf (entsD w.params tf' (vs ++ [(at', v)])) (vs ++ [(at', v)]).length) :: news) → Z { s with heap := h', toks := tk }) :
    wpAny (model prog w) A (eval (.Name sn np) (envOf cn cs L a cd)) (fun ov s₂ => wpAny (model prog w) A (setAttr ov at' v) (fun _ s₃ => Z s₃) E s₂) E s := by
  obtain ⟨hsn1, hsn2⟩ := locOk_of hsn
  refine ld F hself ?_ hk hsn1 hsn2
  have hnd' := lookup_none hfresh
  refine set_rec (news' := fun tf' => os ++ (x, instObj C dx) :: (dx, dictOf (entsD w.params tf' (vs ++ [(at', v)])) (vs ++ [(at', v)]).length) :: news) F X₀ N (List.mem_append_right _ (.head _)) (List.mem_append_right _ (.tail _ (.head _))) hpl (by omega) (fun tf' => ?_) fun h'' tf' F₁ N₁ => h _ _ _ F₁ N₁
  rw [putV_new hnd', hnd', List.length_append]
  exact upd_mid (fun p hp => Nat.ne_of_gt (Nat.lt_trans hdx (incr_gt hi p hp))) (Nat.ne_of_gt hdx) (fun p hp => Nat.ne_of_lt (hlt p hp))
def allAttr (K : Frag) (C : Addr) (l : List (Str × IV)) : Bool := l.all fun q => plainAttr K C q.1
theorem init_go (hk : cs.kind = .function) (X₀ : K.In h₀) (hself : m sn = some (.ref x)) (hsn : locOk cs sn = true) (hlt : ∀ p ∈ news, p.1 < dx) (hdx : dx < x) {l : List (Str × IV)} {body : List Stmt} (I : Ini sn body l) :
    ∀ (vs : List (Str × Value)) (tf : Nat → Tok) (os : List (Addr × Obj)) (s : Shared) (k : List (Str × Value) → List (Addr × Obj) → Prop),
      allAttr K C l = true → namesOk cs m l = true → (vs.map (·.1) ++ l.map (·.1)).Nodup → vs.length + l.length < 1000 →
      Fr h₀ L s.heap m → News h₀ L s.heap (os ++ (x, instObj C dx) :: (dx, dictOf (entsD w.params tf vs) vs.length) :: news) → Incr x os →
      InitWP m l k →
      (∀ h' tk tf' vs' os', k vs' os' → Fr h₀ L h' m → News h₀ L h' ((os ++ os') ++ (x, instObj C dx) :: (dx, dictOf (entsD w.params tf' (vs ++ vs')) (vs ++ vs').length) :: news) → Incr x (os ++ os') → Q .next { s with heap := h', toks := tk }) →
      wpAny (model prog w) A (execs body (envOf cn cs L a cd)) Q E s := by
  induction I with
  | done =>
    intro vs tf os s k _ _ _ _ F N hi hw h
    have hz := h s.heap s.toks tf [] [] hw F
    simp only [List.append_nil] at hz
    exact wpAny_execs_nil (hz N hi)
  | @name p1 at' p2 y p3 p4 r l _ ih =>
    intro vs tf os s k hpl hnm hnd hlen F N hi hw h
    obtain ⟨q1, q2⟩ := Bool.and_eq_true_iff.mp hpl
    have n2 := names_tail hnm
    obtain ⟨n3, n4⟩ := Bool.and_eq_true_iff.mp (names_head hnm)
    obtain ⟨hy1, hy2⟩ := locOk_of n3
    obtain ⟨v, hv⟩ := Option.isSome_iff_exists.mp n4
    rw [List.length_cons] at hlen
    refine wpAny_execs_cons (plainObj_wpAny_Assign_Attribute (ld F hv ?_ hk hy1 hy2))
    refine init_store hk X₀ hself hsn hlt hdx q1 (fresh_of hnd) (by omega) F N hi fun h₁ tk₁ tf₁ F₁ N₁ => ?_
    refine ih _ _ _ _ _ q2 n2 (nodup_next hnd) (by rw [List.length_append]; simp only [List.length_singleton]; omega) F₁ N₁ hi (hw v hv) fun h₂ tk₂ tf₂ vs' os' hk' F₂ N₂ hi₂ => ?_
    exact h _ _ _ _ _ hk' F₂ (news_assoc0 N₂) hi₂
  | @cst p1 at' p2 c kk p3 p4 r l _ ih =>
    intro vs tf os s k hpl hnm hnd hlen F N hi hw h
    obtain ⟨q1, q2⟩ := Bool.and_eq_true_iff.mp hpl
    have n2 := names_tail hnm
    rw [List.length_cons] at hlen
    have fin : ∀ (v : Value) (tk : Nat) (k' : List (Str × Value) → List (Addr × Obj) → Prop), InitWP m l k' → (∀ vs' os', k' vs' os' → k ((at', v) :: vs') os') →
        wpAny (model prog w) A (eval (.Name sn p1) (envOf cn cs L a cd)) (fun ov s₂ => wpAny (model prog w) A (setAttr ov at' v) (fun _ s₃ => wpAny (model prog w) A (execs r (envOf cn cs L a cd)) Q E s₃) E s₂) E { s with toks := tk } := by
      intro v tk k' hw' hkk
      refine init_store (s := { s with toks := tk }) hk X₀ hself hsn hlt hdx q1 (fresh_of hnd) (by omega) F N hi fun h₁ tk₁ tf₁ F₁ N₁ => ?_
      refine ih _ _ _ _ _ q2 n2 (nodup_next hnd) (by rw [List.length_append]; simp only [List.length_singleton]; omega) F₁ N₁ hi hw' fun h₂ tk₂ tf₂ vs' os' hk' F₂ N₂ hi₂ => ?_
      exact h _ _ _ _ _ (hkk _ _ hk') F₂ (news_assoc0 N₂) hi₂
    refine wpAny_execs_cons (plainObj_wpAny_Assign_Attribute ?_)
    cases c with
    | none => exact wpAny_Constant_none (fin .none s.toks _ hw fun _ _ q => q)
    | bool b => exact wpAny_Constant_bool (fin (.bool b) s.toks _ hw fun _ _ q => q)
    | int i => exact wpAny_Constant_int (fin (.int i s.toks) (s.toks + 1) _ (hw s.toks) fun _ _ q => q)
    | str z => exact wpAny_Constant_str (fin (.str z s.toks) (s.toks + 1) _ (hw s.toks) fun _ _ q => q)
    | float => exact hw.elim
    | complex => exact hw.elim
    | bytes => exact hw.elim
    | ellipsis => exact hw.elim
  | @nil p1 at' p2 p3 p4 r l _ ih =>
    intro vs tf os s k hpl hnm hnd hlen F N hi hw h
    obtain ⟨q1, q2⟩ := Bool.and_eq_true_iff.mp hpl
    have n2 := names_tail hnm
    rw [List.length_cons] at hlen
    refine wpAny_execs_cons (plainObj_wpAny_Assign_Attribute (List_ (spliced_none (newList_K F N fun ad h' F' N' hl => ?_))))
    have hi' := incr_snoc hi (q := (ad, W.listOf #[] 0)) (lastA_lt (hl _ (List.mem_append_right _ (.head _))) fun p hp => hl p (List.mem_append_left _ hp))
    refine init_store (s := { s with heap := h' }) hk X₀ hself hsn hlt hdx q1 (fresh_of hnd) (by omega) F' (news_move N') hi' fun h₁ tk₁ tf₁ F₁ N₁ => ?_
    refine ih _ _ _ _ _ q2 n2 (nodup_next hnd) (by rw [List.length_append]; simp only [List.length_singleton]; omega) F₁ N₁ hi' (hw ad) fun h₂ tk₂ tf₂ vs' os' hk' F₂ N₂ hi₂ => ?_
    exact h _ _ _ _ _ hk' F₂ (news_assoc N₂) (by rw [List.append_assoc] at hi₂; exact hi₂)
  | @dct p1 at' p2 p3 p4 r l _ ih =>
    intro vs tf os s k hpl hnm hnd hlen F N hi hw h
    obtain ⟨q1, q2⟩ := Bool.and_eq_true_iff.mp hpl
    have n2 := names_tail hnm
    rw [List.length_cons] at hlen
    refine wpAny_execs_cons (plainObj_wpAny_Assign_Attribute (wpAny_Dict_empty ?_))
    have hl := fun p hp => Heap.lt_size (N p hp).1
    have hi' := incr_snoc hi (q := (s.heap.objs.size, dictOf [] 0)) (lastA_lt (hl _ (List.mem_append_right _ (.head _))) fun p hp => hl p (List.mem_append_left _ hp))
    refine init_store (s := { s with heap := s.heap.push _ }) hk X₀ hself hsn hlt hdx q1 (fresh_of hnd) (by omega) (F.push _) (news_move (News.push F N _)) hi' fun h₁ tk₁ tf₁ F₁ N₁ => ?_
    refine ih _ _ _ _ _ q2 n2 (nodup_next hnd) (by rw [List.length_append]; simp only [List.length_singleton]; omega) F₁ N₁ hi' (hw s.heap.objs.size) fun h₂ tk₂ tf₂ vs' os' hk' F₂ N₂ hi₂ => ?_
    exact h _ _ _ _ _ hk' F₂ (news_assoc N₂) (by rw [List.append_assoc] at hi₂; exact hi₂)
  | @tup p1 at' p2 kk p3 p4 r l _ ih =>
    intro vs tf os s k hpl hnm hnd hlen F N hi hw h
    obtain ⟨q1, q2⟩ := Bool.and_eq_true_iff.mp hpl
    have n2 := names_tail hnm
    rw [List.length_cons] at hlen
    refine wpAny_execs_cons (plainObj_wpAny_Assign_Attribute (Tuple_ (spliced_none (newTuple_N F N fun h' F' N' => ?_))))
    have hl := fun p hp => Heap.lt_size (N p hp).1
    have hi' := incr_snoc hi (q := (s.heap.objs.size, tupOf [])) (lastA_lt (hl _ (List.mem_append_right _ (.head _))) fun p hp => hl p (List.mem_append_left _ hp))
    refine init_store (s := { s with heap := h' }) hk X₀ hself hsn hlt hdx q1 (fresh_of hnd) (by omega) F' (news_move N') hi' fun h₁ tk₁ tf₁ F₁ N₁ => ?_
    refine ih _ _ _ _ _ q2 n2 (nodup_next hnd) (by rw [List.length_append]; simp only [List.length_singleton]; omega) F₁ N₁ hi' (hw s.heap.objs.size) fun h₂ tk₂ tf₂ vs' os' hk' F₂ N₂ hi₂ => ?_
    exact h _ _ _ _ _ hk' F₂ (news_assoc N₂) (by rw [List.append_assoc] at hi₂; exact hi₂)
theorem init_run {l : List (Str × IV)} {body : List Stmt} {s : Shared} (hk : cs.kind = .function) (X₀ : K.In h₀) (F : Fr h₀ L s.heap m) (N : News h₀ L s.heap ((x, instObj C dx) :: (dx, dictOf [] 0) :: news)) (hself : m sn = some (.ref x)) (hlt : ∀ p ∈ news, p.1 < dx) (hdx : dx < x)
    (I : Ini sn body l) (hok : (locOk cs sn && allAttr K C l && namesOk cs m l && decide ((l.map (·.1)).Nodup) && decide (l.length < 1000)) = true)
    (hw : InitWP m l fun vs os => ∀ h' tk tf, Fr h₀ L h' m → News h₀ L h' (os ++ (x, instObj C dx) :: (dx, dictOf (entsD w.params tf vs) vs.length) :: news) → Incr x os → Q .next { s with heap := h', toks := tk }) :
    wpAny (model prog w) A (execs body (envOf cn cs L a cd)) Q E s := by
  simp only [Bool.and_eq_true, decide_eq_true_eq] at hok
  obtain ⟨⟨⟨⟨h1, h2⟩, h3⟩, h4⟩, h5⟩ := hok
  refine init_go hk X₀ hself h1 hlt hdx I [] (fun _ => 0) [] s _ h2 h3 h4 (by simpa only [List.length_nil, Nat.zero_add] using h5) F N trivial hw ?_
  intro h' tk tf' vs' os' hk' F' N' hi
  exact hk' h' tk tf' F' N' hi
end
end Mine
end
section
open PySem PySem.W PySem.Calls PyProof.Rows
namespace Mine
/-- where a call of the text's stands: what is written, the frames below, room -/
def Cx (w : World) (dp un : Nat) (cs : Scope) (outer : List Env) (h₀ : Heap) : Prop :=
  ∃ A₀ base p loose mean mg mb, Below A₀ base outer h₀ ∧ (Mine.heap39 w.params).In h₀ ∧ Top p loose mean mg mb h₀ ∧ cs.kind = .function ∧ dp < 890 ∧ un < 5000
section
variable {w : World} {dp un : Nat} {gd : Option (List Code)} {cn : Str} {cs : Scope} {L a : Addr} {ccd : Value} {cl : List (Str × Addr)} {outer : List Env} {h₀ : Heap} {m : Str → Option Value} {news : List (Addr × Obj)} {s : Shared} {Q E : Value → Shared → Prop} {prog : Program}
theorem make_rec {C fI : Addr} {pos : List Value} {name qual : Str} {params : Arguments} {body : List Stmt} {scope : Scope} {dV kV doc pm cdv ct oc : Value} {an od : Option Addr} {osl : Array (Option Value)} {l : List (Str × IV)} {sn : Str} {pars : List (Str × Value)}
    (Γ : Cx w dp un cs outer h₀) (F : Fr h₀ L s.heap m) (N : News h₀ L s.heap news)
    (hm : makesIn (Mine.heap39 w.params) C = true) (hi : findIn (Mine.heap39 w.params) (.ref C) "__init__" = some (some (.ref fI))) (hf : isFn (Mine.heap39 w.params) (.ref fI) = true)
    (ho : (Mine.heap39 w.params).lookup fI = some ⟨oc, od, .func (fnOf name qual params body scope dV kV doc pm an cdv ct), osl⟩) (hcd : codeIn (Mine.heap39 w.params) cdv qual = true)
    (hbind : ∀ x s, BindsTo s (fnOf name qual params body scope dV kV doc pm an cdv ct) ⟨.ref x :: pos, []⟩ ((sn, .ref x) :: pars)) (hloc : (((sn, Value.none) :: pars).all fun x => decide (scope.names.lookup x.1 = some .local)) = true)
    (hsn : ((pars.map (·.1)).all fun y => !(y == sn)) = true)
    (hco : scope.isCoroutine = false) (hgen : scope.isGenerator = false) (hk : scope.kind = .function) (hcell : ∀ x ∈ scope.names, x.2 ≠ .cell)
    (I : Ini sn body l)
    (hok : (locOk scope sn && allAttr (Mine.heap39 w.params) C l && namesOk scope (fun y => pars.reverse.lookup y) l && decide ((l.map (·.1)).Nodup) && decide (l.length < 1000)) = true)
    (hw : ∀ x dx, (∀ p ∈ news, p.1 < dx) → dx < x → InitWP (fun y => pars.reverse.lookup y) l fun vs os => ∀ h' tk tf, Fr h₀ L h' m → News h₀ L h' (os ++ (x, instObj C dx) :: (dx, dictOf (entsD w.params tf vs) vs.length) :: news) → Incr x os → Q (.ref x) { s with heap := h', toks := tk }) :
    wpAny (model prog w) (ktrTop dp un gd cn cs L a ccd cl outer) (call (.ref C) pos) Q E s := by
  obtain ⟨A₀, base, p, loose, mean, mg, mb, B, X, T, hke, hdp, hun⟩ := Γ
  refine call_cls F X N hm hi hf fun x dx h₁ F₁ N₁ hl1 hl2 => ?_
  refine code_def B F₁ X N₁ T rfl rfl hke ho hcd (by rw [depth_under_make]; simp only [recursionLimit]; show dp + 1 < 1000; omega) (hbind x _) (by
    intro y hy
    rw [List.all_eq_true] at hloc
    rcases List.mem_cons.mp hy with rfl | hy
    · exact of_decide_eq_true (hloc (sn, Value.none) (.head _))
    · exact of_decide_eq_true (hloc y (.tail _ hy))) (fun g L' h' FG F' N' B' X' T' => ?_) hco hgen hk hcell
  have hlk : ∀ y, ((sn, Value.ref x) :: pars).reverse.lookup y = (pars.reverse.lookup y).or (if y == sn then some (.ref x) else none) := by
    intro y
    rw [List.reverse_cons, List.lookup_append, List.lookup_cons, List.lookup_nil]
    cases (y == sn) <;> rfl
  have hnone : pars.reverse.lookup sn = none := by
    refine lookup_none fun hm => ?_
    rw [List.map_reverse, List.mem_reverse] at hm
    have := List.all_eq_true.mp hsn _ hm
    simp at this
  simp only [Bool.and_eq_true] at hok
  obtain ⟨⟨⟨⟨o1, o2⟩, o3⟩, o4⟩, o5⟩ := hok
  have o3' : namesOk scope (fun y => ((sn, Value.ref x) :: pars).reverse.lookup y) l = true := by
    unfold namesOk at o3 ⊢
    rw [List.all_eq_true] at o3 ⊢
    intro q hq
    have := o3 q hq
    cases hiv : q.2 with
    | name y =>
      rw [hiv] at this
      simp only [Bool.and_eq_true] at this ⊢
      refine ⟨this.1, ?_⟩
      rw [hlk]
      obtain ⟨v, hv⟩ := Option.isSome_iff_exists.mp this.2
      rw [hv]; rfl
    | _ => rfl
  have key : ∀ (l : List (Str × IV)), namesOk scope (fun y => pars.reverse.lookup y) l = true → ∀ k, InitWP (fun y => pars.reverse.lookup y) l k → InitWP (fun y => ((sn, Value.ref x) :: pars).reverse.lookup y) l k := by
    intro l
    induction l with
    | nil => exact fun _ _ h => h
    | cons q r ih =>
      intro hn k h
      unfold namesOk at hn ih
      simp only [List.all_cons, Bool.and_eq_true] at hn
      obtain ⟨at', iv⟩ := q
      cases iv with
      | name y =>
        intro v hv
        simp only [Bool.and_eq_true] at hn
        obtain ⟨v', hv'⟩ := Option.isSome_iff_exists.mp hn.1.2
        have e : ((sn, Value.ref x) :: pars).reverse.lookup y = some v' := by rw [hlk, hv']; rfl
        exact ih hn.2 _ (h v (hv'.trans (e.symm.trans hv)))
      | nil => exact fun l => ih hn.2 _ (h l)
      | dct => exact fun l => ih hn.2 _ (h l)
      | tup => exact fun l => ih hn.2 _ (h l)
      | cst c =>
        cases c with
        | none => exact ih hn.2 _ h
        | bool => exact ih hn.2 _ h
        | int => exact fun t => ih hn.2 _ (h t)
        | str => exact fun t => ih hn.2 _ (h t)
        | _ => exact h
  refine init_run (sn := sn) (l := l) hk X' F' N' (by show ((sn, Value.ref x) :: pars).reverse.lookup sn = some (.ref x); rw [hlk, hnone]; simp) hl1 hl2 I (by simp only [Bool.and_eq_true]; exact ⟨⟨⟨⟨o1, o2⟩, o3'⟩, o4⟩, o5⟩) (key l o3 _ ?_)
  have mono : ∀ (l : List (Str × IV)) (m : Str → Option Value) (k k' : List (Str × Value) → List (Addr × Obj) → Prop), (∀ vs os, k vs os → k' vs os) → InitWP m l k → InitWP m l k' := by
    intro l m
    induction l with
    | nil => exact fun _ _ hk h => hk _ _ h
    | cons q r ih =>
      intro k k' hk h
      obtain ⟨at', iv⟩ := q
      cases iv with
      | name y => exact fun v hv => ih _ _ (fun _ _ => hk _ _) (h v hv)
      | nil => exact fun l => ih _ _ (fun _ _ => hk _ _) (h l)
      | dct => exact fun l => ih _ _ (fun _ _ => hk _ _) (h l)
      | tup => exact fun l => ih _ _ (fun _ _ => hk _ _) (h l)
      | cst c =>
        cases c with
        | none => exact ih _ _ (fun _ _ => hk _ _) h
        | bool => exact ih _ _ (fun _ _ => hk _ _) h
        | int => exact fun t => ih _ _ (fun _ _ => hk _ _) (h t)
        | str => exact fun t => ih _ _ (fun _ _ => hk _ _) (h t)
        | _ => exact h
  refine mono l _ _ _ (fun vs os hq h₂ tk tf F₂ N₂ hin => ?_) (hw x dx hl1 hl2)
  exact leaveK_ F₂ N₂ fun F₃ N₃ => ⟨rfl, hq h₂ tk tf F₃ N₃ hin⟩
end
end Mine
end
section
open PySem PySem.W PySem.Calls PyProof.Rows
namespace Mine
/-- an item's attributes, as far as they are asked -/
def ItemRec (vs : List (Str × Value)) (nm : Str) (cl kl : Addr) : Prop :=
  (∃ t, vs.lookup (Str.ofString "name") = some (.str nm t)) ∧ vs.lookup (Str.ofString "conditions") = some (.ref cl) ∧ vs.lookup (Str.ofString "kids") = some (.ref kl) ∧ (vs.lookup (Str.ofString "parent")).isSome = true ∧ vs.lookup (Str.ofString "add") = none ∧ vs.length = 19
section
variable {w : World} {dp un : Nat} {gd : Option (List Code)} {cn : Str} {cs : Scope} {L a : Addr} {ccd : Value} {cl : List (Str × Addr)} {outer : List Env} {h₀ : Heap} {m : Str → Option Value} {news : List (Addr × Obj)} {s : Shared} {Q E : Value → Shared → Prop}
set_option maxHeartbeats 1000000 in
theorem item_c {lv : Value} {nm : Str} {t : Tok} (Γ : Cx w dp un cs outer h₀) (F : Fr h₀ L s.heap m) (N : News h₀ L s.heap news)
    (ret : ∀ x dx c k vs tf s', Same s s' → Fr h₀ L s'.heap m → News h₀ L s'.heap ((c, W.listOf #[] 0) :: (k, W.listOf #[] 0) :: (x, instObj 133 dx) :: (dx, dictOf (entsD w.params tf vs) 19) :: news) → ItemRec vs nm c k →
      (∀ p ∈ news, p.1 < dx) → dx < x → x < c → c < k → Q (.ref x) s') :
    wpAny (model PySem.Challenge.rw_og0080_01.row.prog w) (ktrTop dp un gd cn cs L a ccd cl outer) (call (.ref 133) [lv, .str nm t]) Q E s := by
  have X : (Mine.heap39 w.params).In h₀ := by obtain ⟨_, _, _, _, _, _, _, _, X, _⟩ := Γ; exact X
  revert X; k_fill; intro X
  refine' make_rec (C := 133) (fI := 104) (sn := Str.ofString "self") (pars := [(Str.ofString "level", lv), (Str.ofString "name", .str nm t)]) Γ F N ?a1 ?a2 ?a3 ?a4 ?a5 ?b1 ?b2 ?a8 ?b3 ?b4 ?b5 ?b6 ?b7 ?a9 ?a10
  case a1 => k_is
  case a2 => k_is
  case a3 => k_is
  case a4 => k_is
  case a5 => k_is
  case b1 => exact fun x s => BindsTo.of_eq rfl
  case b2 => kernel_rfl
  case a8 => kernel_rfl
  case b3 => rfl
  case b4 => rfl
  case b5 => rfl
  case b6 => decide
  case b7 => repeat (first | exact Ini.done | apply Ini.name | apply Ini.cst | apply Ini.nil | apply Ini.dct | apply Ini.tup)
  case a9 => kernel_rfl
  case a10 =>
    intro x dx hl1 hl2
    intro v1 e1 v2 e2 t1 t2 t3 c k t4 t5 t6 h' tk tf F' N' hi
    obtain ⟨i1, i2, _⟩ := hi
    obtain rfl : lv = v1 := Option.some.inj ((by kernel_rfl : _ = some lv).symm.trans e1)
    obtain rfl : Value.str nm t = v2 := Option.some.inj ((by kernel_rfl : _ = some (Value.str nm t)).symm.trans e2)
    exact ret x dx c k _ tf _ ⟨rfl, rfl, rfl⟩ F' N' ⟨⟨t, by kernel_rfl⟩, by kernel_rfl, by kernel_rfl, by kernel_rfl, by kernel_rfl, rfl⟩ hl1 hl2 i1 i2
end
end Mine
end
section
open PySem PySem.W PySem.Calls PyProof.Rows
namespace Mine
def FileRec (vs : List (Str × Value)) : Prop := (vs.lookup (Str.ofString "records")).isSome = true ∧ (vs.lookup (Str.ofString "is_sort")).isSome = true ∧ vs.length = 10
def DataRec (vs : List (Str × Value)) (wl ll fd sl : Addr) : Prop :=
  vs.lookup (Str.ofString "working") = some (.ref wl) ∧ vs.lookup (Str.ofString "linkage") = some (.ref ll) ∧ vs.lookup (Str.ofString "files") = some (.ref fd) ∧ vs.lookup (Str.ofString "sorts") = some (.ref sl) ∧ vs.length = 6
section
variable {w : World} {dp un : Nat} {gd : Option (List Code)} {cn : Str} {cs : Scope} {L a : Addr} {ccd : Value} {cl : List (Str × Addr)} {outer : List Env} {h₀ : Heap} {m : Str → Option Value} {news : List (Addr × Obj)} {s : Shared} {Q E : Value → Shared → Prop}
theorem Cx.X (Γ : Cx w dp un cs outer h₀) : (Mine.heap39 w.params).In h₀ := by obtain ⟨_, _, _, _, _, _, _, _, X, _⟩ := Γ; exact X
set_option maxHeartbeats 1000000 in
theorem file_c {nm : Str} {t : Tok} (Γ : Cx w dp un cs outer h₀) (F : Fr h₀ L s.heap m) (N : News h₀ L s.heap news)
    (ret : ∀ x dx b c vs tf s', Same s s' → Fr h₀ L s'.heap m → News h₀ L s'.heap ((b, tupOf []) :: (c, tupOf []) :: (x, instObj 213 dx) :: (dx, dictOf (entsD w.params tf vs) 10) :: news) → FileRec vs →
      (∀ p ∈ news, p.1 < dx) → dx < x → x < b → b < c → Q (.ref x) s') :
    wpAny (model PySem.Challenge.rw_og0080_01.row.prog w) (ktrTop dp un gd cn cs L a ccd cl outer) (call (.ref 213) [.str nm t]) Q E s := by
  have X := Γ.X
  revert X; k_fill; intro X
  refine' make_rec (C := 213) (fI := 203) (sn := Str.ofString "self") (pars := [(Str.ofString "name", .str nm t)]) Γ F N ?a1 ?a2 ?a3 ?a4 ?a5 ?b1 ?b2 ?a8 ?b3 ?b4 ?b5 ?b6 ?b7 ?a9 ?a10
  case a1 => k_is
  case a2 => k_is
  case a3 => k_is
  case a4 => k_is
  case a5 => k_is
  case b1 => exact fun x s => BindsTo.of_eq rfl
  case b2 => kernel_rfl
  case a8 => kernel_rfl
  case b3 => rfl
  case b4 => rfl
  case b5 => rfl
  case b6 => decide
  case b7 => repeat (first | exact Ini.done | apply Ini.name | apply Ini.cst | apply Ini.nil | apply Ini.dct | apply Ini.tup)
  case a9 => kernel_rfl
  case a10 =>
    intro x dx hl1 hl2
    intro v2 e2 t1 t2 t3 t4 b t5 t6 c h' tk tf F' N' hi
    obtain ⟨i1, i2, _⟩ := hi
    obtain rfl : Value.str nm t = v2 := Option.some.inj ((by kernel_rfl : _ = some (Value.str nm t)).symm.trans e2)
    exact ret x dx b c _ tf _ ⟨rfl, rfl, rfl⟩ F' N' ⟨by kernel_rfl, by kernel_rfl, rfl⟩ hl1 hl2 i1 i2
set_option maxHeartbeats 1000000 in
theorem data_c (Γ : Cx w dp un cs outer h₀) (F : Fr h₀ L s.heap m) (N : News h₀ L s.heap news)
    (ret : ∀ x dx wl ll fd sl ix vs tf s', Same s s' → Fr h₀ L s'.heap m → News h₀ L s'.heap ((wl, W.listOf #[] 0) :: (ll, W.listOf #[] 0) :: (fd, dictOf [] 0) :: (sl, W.listOf #[] 0) :: (ix, dictOf [] 0) :: (x, instObj 159 dx) :: (dx, dictOf (entsD w.params tf vs) 6) :: news) → DataRec vs wl ll fd sl →
      (∀ p ∈ news, p.1 < dx) → dx < x → x < wl → wl < ll → ll < fd → fd < sl → sl < ix → Q (.ref x) s') :
    wpAny (model PySem.Challenge.rw_og0080_01.row.prog w) (ktrTop dp un gd cn cs L a ccd cl outer) (call (.ref 159) []) Q E s := by
  have X := Γ.X
  revert X; k_fill; intro X
  refine' make_rec (C := 159) (fI := 151) (sn := Str.ofString "self") (pars := []) Γ F N ?a1 ?a2 ?a3 ?a4 ?a5 ?b1 ?b2 ?a8 ?b3 ?b4 ?b5 ?b6 ?b7 ?a9 ?a10
  case a1 => k_is
  case a2 => k_is
  case a3 => k_is
  case a4 => k_is
  case a5 => k_is
  case b1 => exact fun x s => BindsTo.of_eq rfl
  case b2 => kernel_rfl
  case a8 => kernel_rfl
  case b3 => rfl
  case b4 => rfl
  case b5 => rfl
  case b6 => decide
  case b7 => repeat (first | exact Ini.done | apply Ini.name | apply Ini.cst | apply Ini.nil | apply Ini.dct | apply Ini.tup)
  case a9 => kernel_rfl
  case a10 =>
    intro x dx hl1 hl2
    intro wl ll fd sl t1 ix h' tk tf F' N' hi
    obtain ⟨i1, i2, i3, i4, i5, _⟩ := hi
    exact ret x dx wl ll fd sl ix _ tf _ ⟨rfl, rfl, rfl⟩ F' N' ⟨by kernel_rfl, by kernel_rfl, by kernel_rfl, by kernel_rfl, rfl⟩ hl1 hl2 i1 i2 i3 i4 i5
end
end Mine
end
section
open PySem PySem.W PySem.Calls PyProof.Rows
namespace Mine
def NamedRec (vs : List (Str × Value)) (nm : Str) : Prop := (∃ t, vs.lookup (Str.ofString "name") = some (.str nm t)) ∧ vs.length = 2
section
variable {w : World} {dp un : Nat} {gd : Option (List Code)} {cn : Str} {cs : Scope} {L a : Addr} {ccd : Value} {cl : List (Str × Addr)} {outer : List Env} {h₀ : Heap} {m : Str → Option Value} {news : List (Addr × Obj)} {s : Shared} {Q E : Value → Shared → Prop}
set_option maxHeartbeats 1000000 in
theorem named_c {nm : Str} {t : Tok} {rw : Addr} {rvs : List Value} (Γ : Cx w dp un cs outer h₀) (F : Fr h₀ L s.heap m) (N : News h₀ L s.heap news) (hr : (rw, tupOf rvs) ∈ news)
    (ret : ∀ x dx vs tf s', Same s s' → Fr h₀ L s'.heap m → News h₀ L s'.heap ((x, instObj 86 dx) :: (dx, dictOf (entsD w.params tf vs) 2) :: news) → NamedRec vs nm →
      (∀ p ∈ news, p.1 < dx) → dx < x → Q (.ref x) s') :
    wpAny (model PySem.Challenge.rw_og0080_01.row.prog w) (ktrTop dp un gd cn cs L a ccd cl outer) (call (.ref 86) [.str nm t, .ref rw]) Q E s := by
  have X := Γ.X
  revert X; k_fill; intro X
  obtain ⟨A₀, base, p, loose, mean, mg, mb, B, _, T, hke, hdp, hun⟩ := Γ
  refine' call_cls (C := 86) (fI := 76) F X N ?a1 ?a2 ?a3 fun x dx h₁ F₁ N₁ hl1 hl2 => ?_
  case a1 => k_is
  case a2 => k_is
  case a3 => k_is
  refine' code_def B F₁ X N₁ T rfl rfl hke ?b1 ?b2 ?b3 ?b4 ?b5 (fun g L' h' FG F' N' B' X' T' => ?_) ?c1 ?c2 ?c3 ?c4
  case b1 => k_is
  case b2 => k_is
  case b3 => rw [depth_under_make]; simp only [recursionLimit]; show dp + 1 < 1000; omega
  case b4 => exact BindsTo.of_eq (binds := [(Str.ofString "self", .ref x), (Str.ofString "name", .str nm t), (Str.ofString "rows", .ref rw)]) rfl
  case b5 => exact locs rfl
  case c1 => rfl
  case c2 => rfl
  case c3 => rfl
  case c4 => decide
  refine wpAny_execs_cons (plainObj_wpAny_Assign_Attribute (ld (v := .str nm t) F' rfl ?_ rfl rfl (by decide)))
  refine init_store (os := []) (vs := []) (tf := fun _ => 0) rfl X' rfl (by kernel_rfl) hl1 hl2 (by kernel_rfl) (by simp) (by decide) F' N' trivial fun h₂ tk₂ tf₂ F₂ N₂ => ?_
  refine wpAny_execs_cons (plainObj_wpAny_Assign_Attribute ?_)
  k_fold
  walk1
  walk1
  walk1
  walk1
  walk1
  walk1
  refine call_tuple_same (items := rvs.toArray) ⟨_, (N₂ _ (.tail _ (.tail _ hr))).1, rfl, _, rfl⟩ ?_
  k_unfold
  refine init_store (os := []) (tf := tf₂) rfl X' rfl (by kernel_rfl) hl1 hl2 (by kernel_rfl) (fun hm => absurd (List.mem_singleton.mp hm) (by show ¬ (Str.ofString "rows" = Str.ofString "name"); decide +kernel)) (by show 1 < 999; decide) F₂ N₂ trivial fun h₃ tk₃ tf₃ F₃ N₃ => ?_
  refine wpAny_execs_nil (leaveK_ F₃ N₃ fun F₄ N₄ => ⟨rfl, ?_⟩)
  exact ret x dx _ tf₃ _ ⟨rfl, rfl, rfl⟩ F₄ N₄ ⟨⟨t, by kernel_rfl⟩, rfl⟩ hl1 hl2
end
end Mine
end
section
open PySem PySem.W PySem.Calls PyProof.Rows
namespace Mine
theorem lookup_putV_ne {a b : Str} {v : Value} (h : a ≠ b) : ∀ {vs : List (Str × Value)}, (putV a v vs).lookup b = vs.lookup b
  | [] => by
    have h2 : (b == a) = false := by simpa using fun e => h e.symm
    unfold putV; rw [List.lookup_cons, h2]
  | (c, u) :: r => by
    unfold putV
    by_cases e : (c == a) = true
    · have : c = a := by simpa using e
      subst this
      have h2 : (b == c) = false := by simpa using fun q => h q.symm
      rw [if_pos e, List.lookup_cons, List.lookup_cons, h2]
    · rw [if_neg e, List.lookup_cons, List.lookup_cons, lookup_putV_ne h]
theorem lookup_putV_self {a : Str} {v : Value} : ∀ {vs : List (Str × Value)}, (putV a v vs).lookup a = some v
  | [] => by unfold putV; rw [List.lookup_cons, beq_self_eq_true]
  | (c, u) :: r => by
    unfold putV
    by_cases e : (c == a) = true
    · have : c = a := by simpa using e
      subst this
      rw [if_pos e, List.lookup_cons, beq_self_eq_true]
    · have h2 : (a == c) = false := by
        cases h : (a == c) with
        | false => rfl
        | true => exact absurd (by rw [eq_of_beq h]; exact beq_self_eq_true _) e
      rw [if_neg e, List.lookup_cons, h2, lookup_putV_self]
theorem length_putV {a : Str} {v : Value} : ∀ {vs : List (Str × Value)}, (vs.lookup a).isSome = true → (putV a v vs).length = vs.length
  | [], h => by cases h
  | (c, u) :: r, h => by
    unfold putV
    by_cases e : (c == a) = true
    · rw [if_pos e]; rfl
    · have h2 : (a == c) = false := by
        cases q : (a == c) with
        | false => rfl
        | true => exact absurd (by rw [eq_of_beq q]; exact beq_self_eq_true _) e
      rw [List.lookup_cons, h2] at h
      rw [if_neg e, List.length_cons, List.length_cons, length_putV h]
section
variable {prog : Program} {w : World} {A : Around} {E : Value → Shared → Prop} {s : Shared} {K : Frag} {h₀ : Heap} {L a : Addr} {m : Str → Option Value} {news : List (Addr × Obj)} {cn : Str} {cs : Scope} {ccd : Value} {cl : List (Str × Addr)} {env : Env}
/-- the statement x.append(e) -/
theorem stmt_append {pl : Sem Bool} {o e : PySem.Expr} {p1 p2 p3 : Pos} {Q : Flow → Shared → Prop}
    (h : wpAny (model prog w) A (eval o env) (fun ov s₁ => ∃ D its n, ov = .ref D ∧ s₁.heap.get? D = some (W.listOf its n) ∧
      wpAny (model prog w) A (eval e env) (fun v s₂ => wpAny (model prog w) A (call (.builtin "list.append") [.ref D, v]) (fun _ => Q .next) E s₂) E s₁) E s)
    (he : starEach [e] env = (false, eval e env) :: starEach [] env := by rfl) (hi : interactive env = false := by rfl)
    (hc : eval (.Call (.Attribute o (Str.ofString "append") p1) [e] [] p2) env = (do
      let ov ← eval o env
      standAt p1.atName
      let (f, first) ← holding [ov] (getMethod ov (Str.ofString "append") pl)
      callWith p2 f first (backTo p2 (starEach [e] env)) (backToKw p2 (keywordEach [] env))) := by rfl) :
    wpAny (model prog w) A (exec (.Expr (.Call (.Attribute o (Str.ofString "append") p1) [e] [] p2) p3) env) Q E s := by
  refine wpAny_Expr_any ?_ hi rfl
  refine methodCall_KW (pl := pl) ?_ hc
  refine wpAny_mono h (fun ov s₁ h₁ => ?_) fun _ _ x => x
  obtain ⟨D, its, n, rfl, hD, h₁⟩ := h₁
  refine Calls.getMethod_list_append hD rfl rfl ?_
  rw [he]
  refine Calls.callWith_builtin rfl (Calls.evalArgs_plain ?_)
  exact Calls.spliced_cons (wpAny_mono h₁ (fun v s₂ h₂ => Calls.spliced_nil h₂) fun _ _ x => x)
theorem eval_attr {C dx x' : Addr} {x attr : Str} {px p : Pos} {vs : List (Str × Value)} {tf : Nat → Tok} {n : Nat} {v : Value} {Q : Value → Shared → Prop} (F : Fr h₀ L s.heap m) (X₀ : K.In h₀) (N : News h₀ L s.heap news) (hv : m x = some (.ref x')) (h1 : (x', instObj C dx) ∈ news) (h2 : (dx, dictOf (entsD w.params tf vs) n) ∈ news)
    (hp : plainAttr K C attr = true) (hl : vs.lookup attr = some v) (hh : handedIn v = true) (h : Q v { s with toks := s.toks + 1 })
    (hk : cs.kind = .function := by rfl) (hx : (envX cn cs L a ccd cl).kindOf x = some .local := by rfl) (hd : (x == ("__debug__" : Str)) = false := by decide) :
    wpAny (model prog w) A (eval (.Attribute (.Name x px) attr p) (envX cn cs L a ccd cl)) Q E s :=
  Attribute_name (nameX_L F hv (get_rec F X₀ N h1 h2 hp hl hh h) hk hx hd)
theorem append_l {D : Addr} {its : List Value} {n : Nat} {v : Value} {R : List (Addr × Obj)} {Q : Value → Shared → Prop} (F : Fr h₀ L s.heap m) (N : News h₀ L s.heap ((D, W.listOf its.toArray n) :: R)) (hR : ∀ p ∈ R, p.1 ≠ D) (hz : its.length ≤ 10000)
    (h : ∀ s', Same s s' → Fr h₀ L s'.heap m → News h₀ L s'.heap ((D, W.listOf (its ++ [v]).toArray (n + 1)) :: R) → Q .none s') :
    wpAny (model prog w) A (call (.builtin "list.append") [.ref D, v]) Q E s := by
  refine append_head F N hR (fun h' F' N' => h _ ⟨rfl, rfl, rfl⟩ F' (by simpa using N')) ?_
  rw [List.size_toArray, sizeLine_eq]; omega
end
theorem news_swap {h₀ h : Heap} {L : Addr} {p q : Addr × Obj} {R : List (Addr × Obj)} (N : News h₀ L h (p :: q :: R)) : News h₀ L h (q :: p :: R) := by
  intro x hx
  simp only [List.mem_cons] at hx
  refine N x ?_
  simp only [List.mem_cons]
  rcases hx with hx | hx | hx
  · exact .inr (.inl hx)
  · exact .inl hx
  · exact .inr (.inr hx)
section
variable {w : World} {dp un : Nat} {gd : Option (List Code)} {cn : Str} {cs : Scope} {L a : Addr} {ccd : Value} {cl : List (Str × Addr)} {outer : List Env} {h₀ : Heap} {m : Str → Option Value} {R : List (Addr × Obj)} {s : Shared} {Q E : Value → Shared → Prop}
set_option maxHeartbeats 1000000 in
theorem add_c {x dx y dy kx : Addr} {vx vy : List (Str × Value)} {tx ty : Nat → Tok} {nx ny n : Nat} {ks : List Value} (Γ : Cx w dp un cs outer h₀) (F : Fr h₀ L s.heap m)
    (N : News h₀ L s.heap ((dy, dictOf (entsD w.params ty vy) ny) :: (kx, W.listOf ks.toArray n) :: R)) (hR1 : ∀ p ∈ R, p.1 ≠ dy) (hR2 : ∀ p ∈ R, p.1 ≠ kx) (hne : dy ≠ kx)
    (hx : (x, instObj 133 dx) ∈ R) (hdx : (dx, dictOf (entsD w.params tx vx) nx) ∈ R) (hkx : vx.lookup (Str.ofString "kids") = some (.ref kx))
    (hy : (y, instObj 133 dy) ∈ R) (hly : (vy.lookup (Str.ofString "parent")).isSome = true) (hzy : vy.length < 1000) (hzk : ks.length ≤ 10000)
    (ret : ∀ tf s', Same s s' → Fr h₀ L s'.heap m → News h₀ L s'.heap ((dy, dictOf (entsD w.params tf (putV (Str.ofString "parent") (Value.ref x) vy)) ny) :: (kx, W.listOf (ks ++ [Value.ref y]).toArray (n + 1)) :: R) → Q .none s') :
    wpAny (model PySem.Challenge.rw_og0080_01.row.prog w) (ktrTop dp un gd cn cs L a ccd cl outer) (call (.ref 111) [.ref x, .ref y]) Q E s := by
  have X := Γ.X
  revert X; k_fill; intro X
  obtain ⟨A₀, base, p, loose, mean, mg, mb, B, _, T, hke, hdp, hun⟩ := Γ
  refine wpAny_call ?_
  refine' code_def B F X N T rfl rfl hke ?b1 ?b2 ?b3 ?b4 ?b5 (fun g L' h' FG F' N' B' X' T' => ?_) ?c1 ?c2 ?c3 ?c4
  case b1 => k_is
  case b2 => k_is
  case b3 => simp only [recursionLimit]; show dp < 1000; omega
  case b4 => exact BindsTo.of_eq (binds := [(Str.ofString "self", .ref x), (Str.ofString "kid", .ref y)]) rfl
  case b5 => exact locs rfl
  case c1 => rfl
  case c2 => rfl
  case c3 => rfl
  case c4 => decide
  refine wpAny_execs_cons (plainObj_wpAny_Assign_Attribute (ld (v := .ref x) F' rfl ?_ rfl rfl (by decide)))
  refine ld (v := .ref y) F' rfl ?_ rfl rfl (by decide)
  refine set_rec (news' := fun tf => (dy, dictOf (entsD w.params tf (putV (Str.ofString "parent") (Value.ref x) vy)) ny) :: (kx, W.listOf ks.toArray n) :: R) F' X' N' (.tail _ (.tail _ hy)) (.head _) (by kernel_rfl) hzy (fun tf => ?_) fun h₂ tf₂ F₂ N₂ => ?_
  · rw [if_pos hly]
    exact .head (List.forall_mem_cons.mpr ⟨fun e => hne e.symm, hR1⟩)
  refine wpAny_execs_cons (stmt_append (eval_attr F₂ X' N₂ rfl (.tail _ (.tail _ hx)) (.tail _ (.tail _ hdx)) (by kernel_rfl) hkx rfl ⟨kx, _, _, rfl, (N₂ _ (.tail _ (.head _))).1, ?_⟩))
  refine ld (v := .ref y) F₂ rfl ?_ rfl rfl (by decide)
  refine append_l F₂ (news_swap N₂) (List.forall_mem_cons.mpr ⟨hne, hR2⟩) hzk fun s₃ e₃ F₃ N₃ => ?_
  exact wpAny_execs_nil (leaveK_ F₃ (news_swap N₃) fun F₄ N₄ => ret tf₂ _ ⟨e₃.1, e₃.2.1, e₃.2.2⟩ F₄ N₄)
end
end Mine
end
section
open PySem PySem.W PySem.Calls PyProof.Rows
namespace Mine
/-- the ledger, each address once -/
structure Led (h₀ : Heap) (L : Addr) (h : Heap) (l : List (Addr × Obj)) : Prop where
  N : News h₀ L h l
  D : (l.map (·.1)).Nodup
namespace Led
variable {h₀ h h' : Heap} {L : Addr} {l l' : List (Addr × Obj)} {p : Addr × Obj} {d : Addr} {o o' : Obj}
theorem perm (x : Led h₀ L h l) (e : l.Perm l') : Led h₀ L h l' := ⟨fun q hq => x.N q (e.mem_iff.mpr hq), (e.map _).nodup_iff.mp x.D⟩
theorem ne (x : Led h₀ L h (p :: l)) : ∀ q ∈ l, q.1 ≠ p.1 := fun q hq e => by
  have := x.D
  rw [List.map_cons, List.nodup_cons] at this
  exact this.1 (List.mem_map.mpr ⟨q, hq, e⟩)
theorem tail (x : Led h₀ L h (p :: l)) : Led h₀ L h l := ⟨fun q hq => x.N q (.tail _ hq), by have := x.D; rw [List.map_cons, List.nodup_cons] at this; exact this.2⟩
theorem upd (x : Led h₀ L h ((d, o) :: l)) (N : News h₀ L h' ((d, o') :: l)) : Led h₀ L h' ((d, o') :: l) := ⟨N, x.D⟩
theorem cons (x : Led h₀ L h l) (N : News h₀ L h' (p :: l)) (hl : ∀ q ∈ l, q.1 < p.1) : Led h₀ L h' (p :: l) :=
  ⟨N, by rw [List.map_cons, List.nodup_cons]; refine ⟨fun hm => ?_, x.D⟩; obtain ⟨q, hq, e⟩ := List.mem_map.mp hm; exact Nat.lt_irrefl _ (e ▸ hl q hq)⟩
theorem cons' (x : Led h₀ L h l) (N : News h₀ L h' (p :: l)) (hl : ∀ q ∈ l, q.1 ≠ p.1) : Led h₀ L h' (p :: l) :=
  ⟨N, by rw [List.map_cons, List.nodup_cons]; refine ⟨fun hm => ?_, x.D⟩; obtain ⟨q, hq, e⟩ := List.mem_map.mp hm; exact hl q hq e⟩
theorem get (x : Led h₀ L h l) (hm : (d, o) ∈ l) : h.get? d = some o := (x.N _ hm).1
end Led

theorem rangeSize_n (n : Nat) : Builtin.Range.rangeSize 0 (n : Int) 1 = (n : Int) := by
  show (if (1 : Int) > 0 then (if (0 : Int) < n then ((n : Int) - 0 - 1) / 1 + 1 else 0) else _) = (n : Int)
  rw [if_pos (by decide)]
  split
  · rw [Int.ediv_one]; omega
  · omega
theorem fits_n {k : Int} (h0 : 0 ≤ k) (h1 : k ≤ 1000) : Builtin.Range.rangeFitsLong k = true := by
  have e : (2 : Int) ^ 63 = 9223372036854775808 := by decide
  unfold Builtin.Range.rangeFitsLong
  rw [e, Bool.and_eq_true]
  exact ⟨decide_eq_true (by omega), decide_eq_true (by omega)⟩
theorem small_n {n : Nat} (h : n ≤ 1000) : Builtin.Range.small 0 (n : Int) 1 = true := by
  unfold Builtin.Range.small
  rw [rangeSize_n, fits_n (by decide) (by decide), fits_n (k := (n : Int)) (by omega) (by omega), fits_n (k := 1) (by decide) (by decide), if_pos (by decide : (1 : Int) > 0), show (n : Int) + (1 - 1) = n by omega, fits_n (k := (n : Int)) (by omega) (by omega)]
  simp
section
variable {w : World} {A : Around} {E : Value → Shared → Prop} {s : Shared} {h₀ : Heap} {L a : Addr} {cn : Str} {cs : Scope} {ccd : Value} {cl : List (Str × Addr)} {prog : Program} {x : Str} {px pos : Pos} {iter : PySem.Expr} {body : List Stmt} {Q : Flow → Shared → Prop}
/-- a turn's end: the invariant at the next number, the iterator's entry kept -/
def TurnOk (h₀ : Heap) (L I : Addr) (o : Obj) (ex : List (Addr × Obj)) (J : (Str → Option Value) → List (Addr × Obj) → Prop) (s : Shared) (f : Flow) (s₂ : Shared) : Prop :=
  f = .next ∧ ∃ m' l', Same s s₂ ∧ Fr h₀ L s₂.heap m' ∧ Led h₀ L s₂.heap ((I, o) :: l') ∧ (∀ p ∈ ex, p ∈ l') ∧ J m' l'
/-- what a for over a thing of n items wants: the items, an invariant -/
def Loops (prog : Program) (w : World) (A : Around) (E : Value → Shared → Prop) (h₀ : Heap) (env : Env) (L : Addr) (x : Str) (body : List Stmt) (Q : Flow → Shared → Prop) (n : Nat) (P : Nat → Value → Prop) (ex : List (Addr × Obj)) (m : Str → Option Value) (l : List (Addr × Obj)) (s : Shared) : Prop :=
  ∃ J : Nat → (Str → Option Value) → List (Addr × Obj) → Prop, J 0 m l ∧
    (∀ i v m₁ l₁ s₁ I o, i < n → P i v → J i m₁ l₁ → (∀ p ∈ ex, p ∈ l₁) → Same s s₁ → Fr h₀ L s₁.heap (fun y => if y = x then some v else m₁ y) → Led h₀ L s₁.heap ((I, o) :: l₁) →
      wpAny (model prog w) A (execs body env) (TurnOk h₀ L I o ex (J (i + 1)) s) E s₁) ∧
    ∀ s₁ m' l', J n m' l' → (∀ p ∈ ex, p ∈ l') → Same s s₁ → Fr h₀ L s₁.heap m' → Led h₀ L s₁.heap l' → Q .next s₁

theorem loops_at {n : Nat} {P : Nat → Value → Prop} {St : Nat → Heap → Prop} {I : Addr} {m : Str → Option Value} {l ex : List (Addr × Obj)} {env : Env} {s' : Shared} (hL : env.locals = L)
    (W : Walks prog w A I (I :: ex.map (·.1)) [I] n P St) (hI : h₀.get? I = none) (hIL : I ≠ L) (hob : ∀ i h, St i h → ∃ o, h.get? I = some o) (hst : St 0 s.heap) (F : Fr h₀ L s.heap m) (Λ : Led h₀ L s.heap l) (hIl : ∀ p ∈ l, p.1 ≠ I)
    (hex : ∀ p ∈ ex, p ∈ l) (hs : Same s' s) (H : Loops prog w A E h₀ env L x body Q n P ex m l s') : LoopAtV prog w A h₀ env x body Q E (.ref I) s := by
  subst hL
  obtain ⟨J, j0, turn, fin⟩ := H
  refine ⟨I, I :: ex.map (·.1), [I], n, P, St, m, l, fun i m₁ l₁ => J i m₁ l₁ ∧ (l₁.map (·.1)).Nodup ∧ ∀ p ∈ ex, p ∈ l₁, rfl, W, ?_, ?_, ?_, hst, F, Λ.N, ⟨j0, Λ.D, hex⟩, ?_, ?_⟩
  · intro hm
    rcases List.mem_cons.mp hm with e | hm
    · exact hIL e.symm
    · obtain ⟨q, hq, e⟩ := List.mem_map.mp hm
      exact (Λ.N q (hex q hq)).2.1 e
  · intro b hb; rw [List.mem_singleton.mp hb]; exact hI
  · intro p hp hb; exact hIl p hp (List.mem_singleton.mp hb)
  · rintro i v m₁ l₁ s₁ own ⟨h₂, tk₂, rfl⟩ hi hP ⟨hJ, hnd, hx₁⟩ hoff hown hget hall hst' F₁ N₁
    obtain ⟨o, ho⟩ := hob _ _ hst'
    have hio : (I, o) ∈ own := hall I (.head _) hI o ho
    have Λ₁ : Led h₀ env.locals h₂ ((I, o) :: l₁) := ⟨fun q hq => by
      rcases List.mem_cons.mp hq with rfl | hq
      · exact N₁ _ (List.mem_append_left _ hio)
      · exact N₁ _ (List.mem_append_right _ hq), by
      rw [List.map_cons, List.nodup_cons]
      refine ⟨fun hm => ?_, hnd⟩
      obtain ⟨q, hq, e⟩ := List.mem_map.mp hm
      exact hoff q hq (List.mem_singleton.mpr e)⟩
    refine wpAny_mono (turn i v m₁ l₁ _ I o hi hP hJ hx₁ (hs.trans ⟨rfl, rfl, rfl⟩) F₁ Λ₁) (fun f s₃ h₃ => ?_) fun _ _ e => e
    obtain ⟨rfl, m', l', e₃, F', Λ', hx', hJ'⟩ := h₃
    have e₄ : Same { s with heap := h₂, toks := tk₂ } s₃ := ⟨e₃.1.trans hs.1.symm, e₃.2.1.trans hs.2.1.symm, e₃.2.2.trans hs.2.2.symm⟩
    refine LoopStepV.next ⟨rfl, s₃.heap, s₃.toks, m', l', e₄.eq, F', fun p hp => ?_, fun p hp hb => Λ'.ne p hp (List.mem_singleton.mp hb), hJ', Λ'.tail.D, hx'⟩
    rcases List.mem_append.mp hp with hp | hp
    · rcases List.mem_cons.mp (hown p hp) with e | hm
      · have e2 : p.2 = o := by have := hget p hp; rw [e, ho] at this; exact (Option.some.inj this).symm
        have : p = (I, o) := Prod.ext e e2
        rw [this]; exact Λ'.N _ (.head _)
      · obtain ⟨q, hq, e⟩ := List.mem_map.mp hm
        have h3 := (N₁ q (List.mem_append_right _ (hx₁ q hq))).1
        have e2 : p.2 = q.2 := by have := hget p hp; rw [← e] at this; exact Option.some.inj (this.symm.trans h3)
        have : p = q := Prod.ext e.symm e2
        rw [this]; exact Λ'.N _ (.tail _ (hx' q hq))
    · exact Λ'.N p (.tail _ hp)
  · rintro h' tk m' l' F' N' _ ⟨hJ, hnd, hx⟩
    exact fin _ m' l' hJ hx (hs.trans ⟨rfl, rfl, rfl⟩) F' ⟨N', hnd⟩

/-- for x in <a list of the ledger>: .. -/
theorem for_list {mh : A.handled = none} (hk : cs.kind = .function) (hx : (envX cn cs L a ccd cl).kindOf x = some .local)
    (h : wpAny (model prog w) A (eval iter (envX cn cs L a ccd cl)) (fun v s₁ => ∃ (D : Addr) (vs : List Value) (n : Nat) (m : Str → Option Value) (l : List (Addr × Obj)), v = .ref D ∧ (D, W.listOf vs.toArray n) ∈ l ∧ Fr h₀ L s₁.heap m ∧ Led h₀ L s₁.heap l ∧
      Loops prog w A E h₀ (envX cn cs L a ccd cl) L x body Q vs.length (fun i v => vs[i]? = some v) [(D, W.listOf vs.toArray n)] m l s₁) E s)
    (hs : ∀ x, foldedSetIterable iter (envX cn cs L a ccd cl) x = pure x := by intro _; rfl) (hE : PassesOwn (model prog w) A (envX cn cs L a ccd cl) E := by passes_own) :
    wpAny (model prog w) A (exec (.For (.Name x px) iter body [] pos) (envX cn cs L a ccd cl)) Q E s := by
  refine For_invV h₀ hx (by show (cs.kind == .class || (cs.kind == .module && L != mainGlobals)) = false; rw [hk]; rfl) (wpAny_mono h (fun xv s₁ h₁ => ?_) fun _ _ e => e) hs hE
  obtain ⟨D, vs, n, m, l, rfl, hD, F, Λ, H⟩ := h₁
  have hl : s₁.heap.IsList D vs.toArray := ⟨_, Λ.get hD, rfl, _, rfl⟩
  refine wpAny_pyIter_list hl ?_
  have hlt : ∀ p ∈ l, p.1 < s₁.heap.objs.size := fun p hp => Heap.lt_size (Λ.N p hp).1
  have W' := Walks.list (prog := prog) (w := w) mh s₁.heap.objs.size D (Nat.ne_of_lt (hlt _ hD)) vs.toArray
  have e1 : vs.toArray.size = vs.length := by simp
  have e2 : (fun (i : Nat) v => vs.toArray[i]? = some v) = fun i v => vs[i]? = some v := by funext i v; simp
  rw [e1, e2] at W'
  refine loops_at (ex := [(D, W.listOf vs.toArray n)]) rfl W' (next_is_new F) (fun e => ?_) (fun i h ⟨⟨o, ho, _⟩, _⟩ => ⟨o, ho⟩) ⟨⟨_, Heap.get?_push_size _ rfl, rfl, rfl⟩, hl.at fun o e => Heap.get?_push_of_some _ e⟩ (F.push _) ⟨fun p hp => ⟨Heap.get?_push_of_some _ (Λ.N p hp).1, (Λ.N p hp).2⟩, Λ.D⟩
    (fun p hp => Nat.ne_of_lt (hlt p hp)) (fun p hp => by rw [List.mem_singleton.mp hp]; exact hD) ⟨rfl, rfl, rfl⟩ H
  exact absurd F.ns.lt (e ▸ Nat.lt_irrefl _)

/-- for x in range(e): .., the number read 0 or more -/
theorem for_range {e : PySem.Expr} {pr pc : Pos} (mh : A.handled = none) (hk : cs.kind = .function) (hx : (envX cn cs L a ccd cl).kindOf x = some .local)
    (hr : ∀ (Q' : Value → Shared → Prop) (s' : Shared), s' = s → Q' (.type "range") s' → wpAny (model prog w) A (eval (.Name (Str.ofString "range") pr) (envX cn cs L a ccd cl)) Q' E s')
    (h : wpAny (model prog w) A (eval e (envX cn cs L a ccd cl)) (fun v s₁ => ∃ (n : Nat) (t : Tok) (m : Str → Option Value) (l : List (Addr × Obj)), v = .int n t ∧ n < 1000 ∧ Fr h₀ L s₁.heap m ∧ Led h₀ L s₁.heap l ∧
      Loops prog w A E h₀ (envX cn cs L a ccd cl) L x body Q n (fun i v => ∃ t, v = .int i t) [] m l s₁) E s)
    (he : starEach [e] (envX cn cs L a ccd cl) = (false, eval e (envX cn cs L a ccd cl)) :: starEach [] (envX cn cs L a ccd cl) := by rfl)
    (hs : ∀ x, foldedSetIterable (.Call (.Name (Str.ofString "range") pr) [e] [] pc) (envX cn cs L a ccd cl) x = pure x := by intro _; rfl) (hE : PassesOwn (model prog w) A (envX cn cs L a ccd cl) E := by passes_own) :
    wpAny (model prog w) A (exec (.For (.Name x px) (.Call (.Name (Str.ofString "range") pr) [e] [] pc) body [] pos) (envX cn cs L a ccd cl)) Q E s := by
  refine For_invV h₀ hx (by show (cs.kind == .class || (cs.kind == .module && L != mainGlobals)) = false; rw [hk]; rfl) ?_ hs hE
  refine wpAny_Call_ofName (hr _ _ rfl ?_)
  rw [he]
  refine callWith_type1 (wpAny_mono h (fun v s₁ h₁ => ?_) fun _ _ e => e)
  obtain ⟨n, t, m, l, rfl, hn, F, Λ, H⟩ := h₁
  refine range1_rows F Λ.N fun h' tk t₁ u₁ v₁ hR F' N' hk' => ?_
  have hsz := rangeSize_n n
  have hsmall := small_n (n := n) (by omega)
  refine wpAny_pyIter_range hR hsmall ?_
  have hlt : ∀ p ∈ l, p.1 < h'.objs.size := fun p hp => Heap.lt_size (N' p hp).1
  have W' : Walks prog w A h'.objs.size (h'.objs.size :: ([] : List (Addr × Obj)).map (·.1)) [h'.objs.size] n (fun i v => ∃ t, v = .int (i : Int) t) (fun i h => IsRangeIter h h'.objs.size (0 + (i : Nat) * 1) ((n : Int) - (i : Nat)) 1) := by
    have := Walks.range (prog := prog) (w := w) mh h'.objs.size 0 1 n
    have e3 : (fun (i : Nat) v => ∃ t, v = Value.int (0 + (i : Int) * 1) t) = fun i v => ∃ t, v = .int (i : Int) t := by funext i v; simp
    rw [e3] at this
    exact this
  refine loops_at rfl W' (next_is_new F') (fun e => ?_) (fun i h hi => ⟨_, hi⟩) (by show IsRangeIter _ _ _ _ _; rw [hsz]; simpa using Heap.get?_push_size _ rfl) (F'.push _) ⟨fun p hp => ⟨Heap.get?_push_of_some _ (N' p hp).1, (N' p hp).2⟩, Λ.D⟩
    (fun p hp => Nat.ne_of_lt (hlt p hp)) (fun p hp => nomatch hp) ⟨rfl, rfl, rfl⟩ H
  exact absurd F'.ns.lt (e ▸ Nat.lt_irrefl _)
end
end Mine
end
section
open PySem PySem.W PySem.Calls PyProof.Rows
namespace Mine
section
variable {w : World} {dp un : Nat} {gd : Option (List Code)} {cn : Str} {cs : Scope} {L a : Addr} {ccd : Value} {cl : List (Str × Addr)} {outer : List Env} {h₀ : Heap} {m : Str → Option Value} {l : List (Addr × Obj)} {s : Shared} {E : Value → Shared → Prop} {prog : Program} {A : Around}
theorem Cx.nameK {csx : Scope} {x : Str} {p : Pos} {v : Value} {Q : Value → Shared → Prop} (Γ : Cx w dp un csx outer h₀) (F : Fr h₀ L s.heap m) (e : nsIn (Mine.heap39 w.params) mainGlobals x = some (some v)) (h : Q v s)
    (hk : cs.kind = .function := by rfl) (hx : (envX cn cs L a ccd cl).kindOf x = some .globalImplicit := by rfl) (hd : (x == ("__debug__" : Str)) = false := by decide) :
    wpAny (model prog w) A (eval (.Name x p) (envX cn cs L a ccd cl)) Q E s := by
  obtain ⟨_, _, _, _, _, _, _, _, X, T, _⟩ := Γ
  exact nameX_K F X (topRead_of T) e h hk hx hd
theorem Cx.nameB {csx : Scope} {x : Str} {p : Pos} {v : Value} {Q : Value → Shared → Prop} (Γ : Cx w dp un csx outer h₀) (F : Fr h₀ L s.heap m) (e : nsIn (Mine.heap39 w.params) mainGlobals x = some none) (hv : bootBuiltins x = some v) (hn : x ≠ "__name__") (h : Q v s)
    (hk : cs.kind = .function := by rfl) (hx : (envX cn cs L a ccd cl).kindOf x = some .globalImplicit := by rfl) (hd : (x == ("__debug__" : Str)) = false := by decide) :
    wpAny (model prog w) A (eval (.Name x p) (envX cn cs L a ccd cl)) Q E s := by
  obtain ⟨_, _, _, _, _, _, _, _, X, T, _⟩ := Γ
  exact nameX_B F X (topRead_of T) e hv hn h hk hx hd
/-- f(e, ..), f a def or a class of the text's -/
theorem Cx.callK {csx : Scope} {x : Str} {p p2 : Pos} {v : Value} {e : PySem.Expr} {rest : List PySem.Expr} {Q : Value → Shared → Prop} (Γ : Cx w dp un csx outer h₀) (F : Fr h₀ L s.heap m) (e' : nsIn (Mine.heap39 w.params) mainGlobals x = some (some v)) (hkp : keepIn (Mine.heap39 w.params) v = true)
    (h : wpAny (model prog w) A (spliced (backTo p2 (starEach (e :: rest) (envX cn cs L a ccd cl)))) (fun vs s₁ => (∃ m', Fr h₀ L s₁.heap m') ∧ wpAny (model prog w) A (call v vs) Q E s₁) E s)
    (hk : cs.kind = .function := by rfl) (hx : (envX cn cs L a ccd cl).kindOf x = some .globalImplicit := by rfl) (hd : (x == ("__debug__" : Str)) = false := by decide)
    (he : starEach (e :: rest) (envX cn cs L a ccd cl) = (false, eval e (envX cn cs L a ccd cl)) :: starEach rest (envX cn cs L a ccd cl) := by rfl) (hplain : (backTo p2 (starEach rest (envX cn cs L a ccd cl))).any (·.1) = false := by rfl) :
    wpAny (model prog w) A (eval (.Call (.Name x p) (e :: rest) [] p2) (envX cn cs L a ccd cl)) Q E s :=
  wpAny_Call_ofName (Γ.nameK F e' (callWith_K Γ.X hkp (wpAny_mono h (fun _ _ z => ⟨let ⟨_, F'⟩ := z.1; Γ.X.keeps F'.keep, z.2⟩) fun _ _ z => z) he hplain) hk hx hd)
theorem Cx.callK0 {csx : Scope} {x : Str} {p p2 : Pos} {v : Value} {Q : Value → Shared → Prop} (Γ : Cx w dp un csx outer h₀) (F : Fr h₀ L s.heap m) (e' : nsIn (Mine.heap39 w.params) mainGlobals x = some (some v)) (hkp : keepIn (Mine.heap39 w.params) v = true)
    (h : wpAny (model prog w) A (call v []) Q E s)
    (hk : cs.kind = .function := by rfl) (hx : (envX cn cs L a ccd cl).kindOf x = some .globalImplicit := by rfl) (hd : (x == ("__debug__" : Str)) = false := by decide) :
    wpAny (model prog w) A (eval (.Call (.Name x p) [] [] p2) (envX cn cs L a ccd cl)) Q E s :=
  wpAny_Call_ofName (Γ.nameK F e' (callWith_K0 (Γ.X.keeps F.keep) hkp h) hk hx hd)
/-- f(e), f a builtin function -/
theorem Cx.callB1 {csx : Scope} {x : Str} {p p2 : Pos} {id : String} {e : PySem.Expr} {Q : Value → Shared → Prop} (Γ : Cx w dp un csx outer h₀) (F : Fr h₀ L s.heap m) (e' : nsIn (Mine.heap39 w.params) mainGlobals x = some none) (hv : bootBuiltins x = some (.builtin id)) (hn : x ≠ "__name__")
    (h : wpAny (model prog w) A (eval e (envX cn cs L a ccd cl)) (fun v s₁ => wpAny (model prog w) A (call (.builtin id) [v]) Q E s₁) E s)
    (hk : cs.kind = .function := by rfl) (hx : (envX cn cs L a ccd cl).kindOf x = some .globalImplicit := by rfl) (hd : (x == ("__debug__" : Str)) = false := by decide)
    (he : starEach [e] (envX cn cs L a ccd cl) = (false, eval e (envX cn cs L a ccd cl)) :: starEach [] (envX cn cs L a ccd cl) := by rfl) :
    wpAny (model prog w) A (eval (.Call (.Name x p) [e] [] p2) (envX cn cs L a ccd cl)) Q E s :=
  wpAny_Call_ofName (Γ.nameB F e' hv hn (by rw [he]; exact PySem.callWith_builtin1 h) hk hx hd)
/-- T(e), T a builtin type -/
theorem Cx.callT1 {csx : Scope} {x : Str} {p p2 : Pos} {id : String} {e : PySem.Expr} {Q : Value → Shared → Prop} (Γ : Cx w dp un csx outer h₀) (F : Fr h₀ L s.heap m) (e' : nsIn (Mine.heap39 w.params) mainGlobals x = some none) (hv : bootBuiltins x = some (.type id)) (hn : x ≠ "__name__")
    (h : wpAny (model prog w) A (eval e (envX cn cs L a ccd cl)) (fun v s₁ => wpAny (model prog w) A (call (.type id) [v]) Q E s₁) E s)
    (hk : cs.kind = .function := by rfl) (hx : (envX cn cs L a ccd cl).kindOf x = some .globalImplicit := by rfl) (hd : (x == ("__debug__" : Str)) = false := by decide)
    (he : starEach [e] (envX cn cs L a ccd cl) = (false, eval e (envX cn cs L a ccd cl)) :: starEach [] (envX cn cs L a ccd cl) := by rfl) :
    wpAny (model prog w) A (eval (.Call (.Name x p) [e] [] p2) (envX cn cs L a ccd cl)) Q E s :=
  wpAny_Call_ofName (Γ.nameB F e' hv hn (by rw [he]; exact PySem.callWith_type1 h) hk hx hd)
/-- a def of the text's is entered -/
theorem Cx.enter {f : Addr} {args : List Value} {name qual : Str} {params : Arguments} {body : List Stmt} {scope : Scope} {dV kV doc pm cdv ct oc : Value} {an od : Option Addr} {osl : Array (Option Value)} {binds : List (Str × Value)} {Q : Value → Shared → Prop}
    (Γ : Cx w dp un cs outer h₀) (hdp : dp < 889) (hun : un < 4990) (F : Fr h₀ L s.heap m) (Λ : Led h₀ L s.heap l)
    (ho : (Mine.heap39 w.params).lookup f = some ⟨oc, od, .func (fnOf name qual params body scope dV kV doc pm an cdv ct), osl⟩) (hcd : codeIn (Mine.heap39 w.params) cdv qual = true)
    (hbind : BindsTo s (fnOf name qual params body scope dV kV doc pm an cdv ct) ⟨args, []⟩ binds) (hloc : (binds.all fun x => decide (scope.names.lookup x.1 = some .local)) = true)
    (hco : scope.isCoroutine = false) (hgen : scope.isGenerator = false) (hk : scope.kind = .function) (hcell : ∀ x ∈ scope.names, x.2 ≠ .cell)
    (h : ∀ g L' (s₁ : Shared) (Q' : Flow → Shared → Prop) (E' : Value → Shared → Prop), Same s s₁ → Cx w (dp + 1) (un + 3) scope (envX cn cs L a ccd cl :: outer) g → Fr g L' s₁.heap (fun y => binds.reverse.lookup y) → Led g L' s₁.heap l →
      PassesOwn (model prog w) (ktrTop (dp + 1) (un + 3) gd qual scope L' f cdv [] (envX cn cs L a ccd cl :: outer)) (envX qual scope L' f cdv []) E' →
      (∀ fl v s' m' l', (fl = .ret v ∨ (fl = .next ∧ v = .none)) → Fr g L' s'.heap m' → Led g L' s'.heap l' → (Fr h₀ L s'.heap m → Led h₀ L s'.heap l' → Q v s') → Q' fl s') →
      wpAny (model prog w) (ktrTop (dp + 1) (un + 3) gd qual scope L' f cdv [] (envX cn cs L a ccd cl :: outer)) (execs body (envX qual scope L' f cdv [])) Q' E' s₁) :
    wpAny (model prog w) (ktrTop dp un gd cn cs L a ccd cl outer) (call (.ref f) args) Q E s := by
  obtain ⟨A₀, base, p, loose, mean, mg, mb, B, X, T, hke, _, _⟩ := Γ
  refine wpAny_call (code_def B F X Λ.N T rfl rfl hke ho hcd (by simp only [recursionLimit]; show dp < 1000; omega) hbind (locs hloc) (fun g L' h' FG F' N' B' X' T' => ?_) hco hgen hk hcell)
  refine h g L' _ _ _ ⟨rfl, rfl, rfl⟩ ⟨_, _, _, _, _, _, _, B', X', T', hk, by omega, by omega⟩ F' ⟨N', Λ.D⟩ (by passes_own) fun fl v s' m' l' hf F₁ Λ₁ q => ?_
  rcases hf with rfl | ⟨rfl, rfl⟩ <;> exact leaveK_ F₁ Λ₁.N fun F₂ N₂ => q F₂ ⟨N₂, Λ₁.D⟩
/-- a local name is stored -/
theorem st_L {x : Str} {v : Value} {Q : Unit → Shared → Prop} (F : Fr h₀ L s.heap m) (Λ : Led h₀ L s.heap l) (h : ∀ s', Same s s' → Fr h₀ L s'.heap (fun y => if y = x then some v else m y) → Led h₀ L s'.heap l → Q () s')
    (hk : cs.kind = .function := by rfl) (hx : (envX cn cs L a ccd cl).kindOf x = some .local := by rfl) : wpAny (model prog w) A (storeName (envX cn cs L a ccd cl) x v) Q E s :=
  storeX_L F Λ.N (fun h' F' N' => h _ ⟨rfl, rfl, rfl⟩ F' ⟨N', Λ.D⟩) hk hx
/-- and left -/
theorem leave_K {Q : Value → Shared → Prop} {v : Value} {g : Heap} {L' : Addr} {m' : Str → Option Value} (F' : Fr g L' s.heap m') (Λ : Led g L' s.heap l) (h : Fr h₀ L s.heap m → Led h₀ L s.heap l → Q v s) :
    LeaveK h₀ L m g (fun r s' => match r with | .ok (.ret v) => Q v s' | .ok _ => False | .error e => E e s') v s := leaveK_ F' Λ.N fun F N => h F ⟨N, Λ.D⟩
end
end Mine
end
section
open PySem PySem.W PySem.Calls PyProof.Rows
namespace Mine
theorem len_boot : bootBuiltins (Str.ofString "len") = some (.builtin "len") := by boot_fast
section
variable {w : World} {dp un : Nat} {gd : Option (List Code)} {cn : Str} {cs : Scope} {L a : Addr} {ccd : Value} {cl : List (Str × Addr)} {outer : List Env} {h₀ : Heap} {m : Str → Option Value} {R : List (Addr × Obj)} {s : Shared} {Q E : Value → Shared → Prop} {prog : Program} {A : Around} {news : List (Addr × Obj)}
/-- len(x), x a list of the ledger by a free name -/
theorem len_l {D : Addr} {vs : List Value} {n : Nat} {Q : Value → Shared → Prop} (N : News h₀ L s.heap news) (hm : (D, W.listOf vs.toArray n) ∈ news) (hz : vs.length < 100000)
    (h : ∀ t tk, Q (.int vs.length t) { s with toks := tk }) : wpAny (model prog w) A (call (.builtin "len") [.ref D]) Q E s := by
  have hs : vs.toArray.size = vs.length := by simp
  exact call_len_list (PySem.IsL.isList (n := n) (N _ hm).1) (by rw [hs]; have e : (2 : Int) ^ 63 = 9223372036854775808 := by decide
                                                                 rw [e]; omega) (by rw [hs]; exact h _ _)
set_option maxHeartbeats 1000000 in
theorem take_c {tk pl : Addr} {ns : List Int} {k lim : Int} {t t1 : Tok} (Γ : Cx w dp un cs outer h₀) (F : Fr h₀ L s.heap m)
    (Λ : Led h₀ L s.heap ((pl, W.listOf [Value.int k t].toArray 0) :: R)) (K : TakeIn R tk pl ns) (hk0 : 0 ≤ k) (hk1 : k ≤ 400) (hl0 : 0 < lim)
    (ret : ∀ r t' t'' s', 0 ≤ r → r < lim → Same s s' → Fr h₀ L s'.heap m → Led h₀ L s'.heap ((pl, W.listOf [Value.int (k + 1) t'].toArray 0) :: R) → Q (.int r t'') s') :
    wpAny (model PG w) (ktrTop dp un gd cn cs L a ccd cl outer) (call (.ref tk) [.int lim t1]) Q E s := by
  obtain ⟨params, body, scope, dc, pm, c', ct, oc, vs, tt, c1, c2, o1, o2, D, ws, ⟨dl, re, tp, ts, b, pos, hst⟩, m1, m2, d2, e2, m3, d3, m4, d4, m5, hI, hc0, hc1⟩ := K
  cases hst
  have hR := Λ.ne
  obtain ⟨A₀, base, p, loose, mean, mg, mb, B, X, T, hke, hdp, hun⟩ := Γ
  refine wpAny_call ?_
  refine' code_nest B F X Λ.N T rfl rfl hke (.tail _ m1) (codeRec_news Λ.N (.tail _ m2) d2 e2) ?k8 (binds := [(Str.ofString "limit", .int lim t1)]) (BindsTo.of_eq rfl) (locs rfl) (fun g' L' h' FG' F' N' B' X' T' => ?_) rfl rfl rfl (by decide)
  case k8 => simp only [recursionLimit]; show dp < 1000; omega
  have Λ' : Led g' L' h' _ := ⟨N', Λ.D⟩
  -- k = place[0]
  refine wpAny_execs_cons (wpAny_Assign_Name (Subscript_ (nameX_F N' rfl (.tail _ m3) d3 (wpAny_Constant_int (sub_at (i := 0) N' (.head _) (by decide) (by decide) rfl ?_)))))
  refine st_L F' Λ' fun s₂ e₂ F₂ Λ₂ => ?_
  -- place[0] = k + 1
  refine wpAny_execs_cons (wpAny_Assign_Subscript (wpAny_BinOp (nameX_L F₂ rfl (wpAny_Constant_int (PyProof.Rows.add_int (nameX_F Λ₂.N rfl (.tail _ m3) d3 (wpAny_Constant_int ?_)))))))
  refine set_at (vs' := [_]) (n' := 0) (i := 0) F₂ Λ₂.N (.head hR) (by decide) (by decide) (by show (0 : Int) < 1; decide) rfl fun s₃ e₃ F₃ N₃ => ?_
  -- level = k // len(cells)
  have hlen := hI.length
  have hw : ws.length < 100000 := by omega
  have hwl : ((ws.length : Nat) : Int) = ns.length := by omega
  obtain ⟨f0, f1⟩ := fdiv_bd hk0 hk1 hc0
  refine wpAny_execs_cons (wpAny_Assign_Name (wpAny_BinOp (nameX_L F₃ rfl (wpAny_Call_ofName ?_))))
  refine nameX_B F₃ X' (topRead_of T') (by kernel_rfl) len_boot (by decide +kernel) (PySem.callWith_builtin1 (nameX_F N₃ rfl (.tail _ m4) d4 (len_l N₃ (.tail _ m5) hw fun t₁ tk₁ => ?_)))
  rw [hwl]
  refine PyProof.Rows.floordiv_int (by omega) ?_ (Or.inl (PyProof.noPylong_small (by omega)))
  refine st_L F₃ ⟨N₃, Λ.D⟩ fun s₄ e₄ F₄ Λ₄ => ?_
  -- return (cells[k % len(cells)] // 720720 ** level + level * (7 * k + 3)) % limit
  refine wpAny_execs_cons (wpAny_Return_some (wpAny_BinOp (wpAny_BinOp (wpAny_BinOp (Subscript_ (nameX_F Λ₄.N rfl (.tail _ m4) d4 (wpAny_BinOp (nameX_L F₄ rfl (wpAny_Call_ofName ?_)))))))))
  refine nameX_B F₄ X' (topRead_of T') (by kernel_rfl) len_boot (by decide +kernel) (PySem.callWith_builtin1 (nameX_F Λ₄.N rfl (.tail _ m4) d4 (len_l Λ₄.N (.tail _ m5) hw fun t₂ tk₂ => ?_)))
  rw [hwl]
  refine mod_int' (by omega) ?_
  refine item_list_ints (PySem.IsL.isList (n := 0) (Λ₄.N _ (.tail _ m5)).1) hI (fmod_lo _ (by omega)) (fmod_hi _ (by omega)) (Int.lt_of_lt_of_le (fmod_hi _ (by omega)) (by omega)) fun t₃ => ?_
  refine wpAny_BinOp (wpAny_Constant_int (nameX_L F₄ rfl (pow_int_small f0 (by omega) (by decide) ?_)))
  refine PyProof.Rows.floordiv_int (Int.pow_ne_zero (by decide)) ?_ (Or.inl (PyProof.noPylong_of_log2 (pow_bits (Int.toNat_le.mpr f1))))
  refine wpAny_BinOp (nameX_L F₄ rfl (wpAny_BinOp (wpAny_BinOp (wpAny_Constant_int (nameX_L F₄ rfl (PyProof.Rows.mul_int (wpAny_Constant_int (PyProof.Rows.add_int (PyProof.Rows.mul_int (PyProof.Rows.add_int (nameX_L F₄ rfl (mod_int' (by omega) ?_))) ?_))) ?_))))))
  · exact leave_K F₄ Λ₄ fun F₅ Λ₅ => ret _ _ _ _ (fmod_lo _ hl0) (fmod_hi _ hl0) ((Same.trans (Same.trans (Same.trans ⟨rfl, rfl, rfl⟩ e₂) e₃) e₄).trans ⟨rfl, rfl, rfl⟩) F₅ Λ₅
  · exact PySem.IntMulOk.of_left (PySem.intBits_le_64 (by omega) (by omega))
  · exact PySem.IntMulOk.of_left (PySem.intBits_le_64 (by decide) (by decide))
end
end Mine
end
section
open PySem PySem.W PySem.Calls PyProof.Rows
namespace Mine
/-- the names of conditions that the law draws from -/
def NAMES : List Str := [Str.ofString "IS-ONE", Str.ofString "IS-TWO", Str.ofString "IS-THREE", Str.ofString "IS-FOUR", Str.ofString "IS-FIVE"]
/-- forests: a first tree (its root, its kids) and the rest -/
inductive Fo | nil | cons (x : Addr) (kids rest : Fo)
namespace Fo
def roots : Fo → List Addr
  | nil => []
  | cons x _ r => x :: r.roots
def pre : Fo → List Addr
  | nil => []
  | cons x k r => x :: (k.pre ++ r.pre)
def snoc (y : Addr) : Fo → Fo
  | nil => cons y nil nil
  | cons x k r => cons x k (snoc y r)
def addKid (x y : Addr) : Fo → Fo
  | nil => nil
  | cons a k r => cons a (if a = x then (addKid x y k).snoc y else addKid x y k) (addKid x y r)
def app : Fo → Fo → Fo
  | nil, g => g
  | cons x k r, g => cons x k (app r g)
theorem roots_snoc (y : Addr) : ∀ f : Fo, (f.snoc y).roots = f.roots ++ [y]
  | nil => rfl
  | cons x k r => by simp only [snoc, roots, roots_snoc y r, List.cons_append]
theorem roots_addKid (x y : Addr) : ∀ f : Fo, (f.addKid x y).roots = f.roots
  | nil => rfl
  | cons a k r => by simp only [addKid, roots, roots_addKid x y r]
theorem roots_app : ∀ f g : Fo, (f.app g).roots = f.roots ++ g.roots
  | nil, _ => rfl
  | cons _ _ r, g => by simp only [app, roots, roots_app r g, List.cons_append]
theorem pre_app : ∀ f g : Fo, (f.app g).pre = f.pre ++ g.pre
  | nil, _ => rfl
  | cons _ _ r, g => by simp only [app, pre, pre_app r g, List.cons_append, List.append_assoc]
theorem pre_snoc (y : Addr) : ∀ f : Fo, (f.snoc y).pre = f.pre ++ [y]
  | nil => rfl
  | cons x k r => by simp only [snoc, pre, pre_snoc y r, List.cons_append, List.append_assoc]
theorem mem_addKid (x y b : Addr) : ∀ f : Fo, b ∈ (f.addKid x y).pre ↔ b ∈ f.pre ∨ (b = y ∧ x ∈ f.pre)
  | nil => by simp [addKid, pre]
  | cons a k r => by
    have ihk := mem_addKid x y b k
    have ihr := mem_addKid x y b r
    simp only [addKid, pre, List.mem_cons, List.mem_append]
    by_cases h : a = x
    · subst h
      rw [if_pos rfl, pre_snoc, List.mem_append, ihk, ihr, List.mem_singleton]
      constructor
      · rintro (h | ((h | h) | h) | (h | h))
        · exact .inl (.inl h)
        · exact .inl (.inr (.inl h))
        · exact .inr ⟨h.1, .inl rfl⟩
        · exact .inr ⟨h, .inl rfl⟩
        · exact .inl (.inr (.inr h))
        · exact .inr ⟨h.1, .inl rfl⟩
      · rintro ((h | h | h) | ⟨h, _⟩)
        · exact .inl h
        · exact .inr (.inl (.inl (.inl h)))
        · exact .inr (.inr (.inl h))
        · exact .inr (.inl (.inr h))
    · rw [if_neg h, ihk, ihr]
      constructor
      · rintro (h | (h | h) | (h | h))
        · exact .inl (.inl h)
        · exact .inl (.inr (.inl h))
        · exact .inr ⟨h.1, .inr (.inl h.2)⟩
        · exact .inl (.inr (.inr h))
        · exact .inr ⟨h.1, .inr (.inr h.2)⟩
      · rintro ((h | h | h) | ⟨h1, h | h | h⟩)
        · exact .inl h
        · exact .inr (.inl (.inl h))
        · exact .inr (.inr (.inl h))
        · exact absurd h.symm (by assumption)
        · exact .inr (.inl (.inr ⟨h1, h⟩))
        · exact .inr (.inr (.inr ⟨h1, h⟩))
theorem len_addKid (x y : Addr) : ∀ f : Fo, (f.addKid x y).pre.length ≤ 2 * f.pre.length
  | nil => Nat.le_refl _
  | cons a k r => by
    have ihk := len_addKid x y k
    have ihr := len_addKid x y r
    simp only [addKid, pre, List.length_cons, List.length_append]
    split
    · rw [pre_snoc, List.length_append, List.length_singleton]; omega
    · omega
end Fo
/-- an item of the ledger: its kids, the words of its conditions -/
def NamedsIn (P : Params) (R : List (Addr × Obj)) : List Addr → List Str → Prop
  | [], [] => True
  | a :: as, z :: zs => (∃ dx vs tf, (a, instObj 86 dx) ∈ R ∧ (dx, dictOf (entsD P tf vs) 2) ∈ R ∧ NamedRec vs z) ∧ NamedsIn P R as zs
  | _, _ => False
def ItemAt (P : Params) (R : List (Addr × Obj)) (x : Addr) (kids : List Addr) (zs : List Str) : Prop :=
  ∃ dx vs tf nm c k nk nc cs, (x, instObj 133 dx) ∈ R ∧ (dx, dictOf (entsD P tf vs) 19) ∈ R ∧ ItemRec vs nm c k ∧ (k, W.listOf (kids.map Value.ref).toArray nk) ∈ R ∧ (c, W.listOf (cs.map Value.ref).toArray nc) ∈ R ∧ NamedsIn P R cs zs
def FoIn (P : Params) (R : List (Addr × Obj)) (wt : Addr → List Str) : Fo → Prop
  | .nil => True
  | .cons x k r => ItemAt P R x k.roots (wt x) ∧ FoIn P R wt k ∧ FoIn P R wt r
def NameAt (P : Params) (R : List (Addr × Obj)) (x : Addr) (nm : Str) : Prop :=
  ∃ dx vs tf c k, (x, instObj 133 dx) ∈ R ∧ (dx, dictOf (entsD P tf vs) 19) ∈ R ∧ ItemRec vs nm c k
theorem NamedsIn.mono {P : Params} {R R' : List (Addr × Obj)} (h : ∀ p ∈ R, p ∈ R') : ∀ {as : List Addr} {zs : List Str}, NamedsIn P R as zs → NamedsIn P R' as zs
  | [], [], _ => trivial
  | _ :: _, _ :: _, ⟨⟨dx, vs, tf, a, b, c⟩, r⟩ => ⟨⟨dx, vs, tf, h _ a, h _ b, c⟩, r.mono h⟩
theorem NamedsIn.snoc {P : Params} {R : List (Addr × Obj)} {a : Addr} {z : Str} (h : ∃ dx vs tf, (a, instObj 86 dx) ∈ R ∧ (dx, dictOf (entsD P tf vs) 2) ∈ R ∧ NamedRec vs z) : ∀ {as : List Addr} {zs : List Str}, NamedsIn P R as zs → NamedsIn P R (as ++ [a]) (zs ++ [z])
  | [], [], _ => ⟨h, trivial⟩
  | _ :: _, _ :: _, ⟨x, r⟩ => ⟨x, r.snoc h⟩
theorem NamedsIn.len {P : Params} {R : List (Addr × Obj)} : ∀ {as : List Addr} {zs : List Str}, NamedsIn P R as zs → as.length = zs.length
  | [], [], _ => rfl
  | _ :: _, _ :: _, ⟨_, r⟩ => congrArg (· + 1) r.len
theorem ItemAt.mono {P : Params} {R R' : List (Addr × Obj)} {x : Addr} {kids : List Addr} {zs : List Str} (h : ∀ p ∈ R, p ∈ R') : ItemAt P R x kids zs → ItemAt P R' x kids zs := fun ⟨dx, vs, tf, nm, c, k, nk, nc, cs, a, b, d, e, f, g⟩ =>
  ⟨dx, vs, tf, nm, c, k, nk, nc, cs, h _ a, h _ b, d, h _ e, h _ f, g.mono h⟩
theorem FoIn.mono {P : Params} {R R' : List (Addr × Obj)} {wt : Addr → List Str} (h : ∀ p ∈ R, p ∈ R') : ∀ {f : Fo}, FoIn P R wt f → FoIn P R' wt f
  | .nil, _ => trivial
  | .cons _ _ _, ⟨a, b, c⟩ => ⟨a.mono h, FoIn.mono h b, FoIn.mono h c⟩
theorem FoIn.app {P : Params} {R : List (Addr × Obj)} {wt : Addr → List Str} : ∀ {f g : Fo}, FoIn P R wt f → FoIn P R wt g → FoIn P R wt (f.app g)
  | .nil, _, _, h => h
  | .cons _ _ _, _, ⟨a, b, c⟩, h => ⟨a, b, c.app h⟩
theorem NameAt.mono {P : Params} {R R' : List (Addr × Obj)} {x : Addr} {nm : Str} (h : ∀ p ∈ R, p ∈ R') : NameAt P R x nm → NameAt P R' x nm := fun ⟨dx, vs, tf, c, k, a, b, d⟩ => ⟨dx, vs, tf, c, k, h _ a, h _ b, d⟩
theorem TakeIn.mono {R R' : List (Addr × Obj)} {tk pl : Addr} {ns : List Int} (h : ∀ p ∈ R, p ∈ R') : TakeIn R tk pl ns → TakeIn R' tk pl ns :=
  fun ⟨params, body, scope, dc, pm, c', ct, oc, vs, t, c1, c2, o1, o2, D, ws, a, m1, m2, d2, e2, m3, d3, m4, d4, m5, r⟩ =>
    ⟨params, body, scope, dc, pm, c', ct, oc, vs, t, c1, c2, o1, o2, D, ws, a, h _ m1, h _ m2, d2, e2, h _ m3, d3, h _ m4, d4, h _ m5, r⟩
/-- an item while the tree is built -/
structure Nd where
  (x dx c k : Addr)
  vs : List (Str × Value)
  tf : Nat → Tok
  (nk nc : Nat)
  (kids cs : List Addr)
  ws : List Str
  nm : Str
abbrev Nd.kE (nd : Nd) : Addr × Obj := (nd.k, W.listOf (nd.kids.map Value.ref).toArray nd.nk)
abbrev Nd.cE (nd : Nd) : Addr × Obj := (nd.c, W.listOf (nd.cs.map Value.ref).toArray nd.nc)
abbrev Nd.iE (nd : Nd) : Addr × Obj := (nd.x, instObj 133 nd.dx)
abbrev Nd.dE (P : Params) (nd : Nd) : Addr × Obj := (nd.dx, dictOf (entsD P nd.tf nd.vs) 19)
def blocks (P : Params) : List Nd → List (Addr × Obj)
  | [] => []
  | nd :: r => nd.kE :: nd.cE :: nd.iE :: nd.dE P :: blocks P r
theorem blocks_app (P : Params) : ∀ a b : List Nd, blocks P (a ++ b) = blocks P a ++ blocks P b
  | [], _ => rfl
  | nd :: r, b => by simp only [List.cons_append, blocks, blocks_app P r b]
theorem perm_blk (P : Params) (a b : List Nd) (nd : Nd) (RR : List (Addr × Obj)) : (blocks P (a ++ nd :: b) ++ RR).Perm (nd.kE :: nd.cE :: nd.iE :: nd.dE P :: (blocks P a ++ (blocks P b ++ RR))) := by
  rw [blocks_app, List.append_assoc]
  exact List.perm_append_comm_assoc (blocks P a) [nd.kE, nd.cE, nd.iE, nd.dE P] (blocks P b ++ RR)
theorem blk_mem {P : Params} {nd : Nd} : ∀ {l : List Nd}, nd ∈ l → nd.kE ∈ blocks P l ∧ nd.cE ∈ blocks P l ∧ nd.iE ∈ blocks P l ∧ nd.dE P ∈ blocks P l
  | n :: r, h => by
    rcases List.mem_cons.mp h with rfl | h
    · exact ⟨.head _, .tail _ (.head _), .tail _ (.tail _ (.head _)), .tail _ (.tail _ (.tail _ (.head _)))⟩
    · obtain ⟨a, b, c, d⟩ := blk_mem (P := P) h
      exact ⟨.tail _ (.tail _ (.tail _ (.tail _ a))), .tail _ (.tail _ (.tail _ (.tail _ b))), .tail _ (.tail _ (.tail _ (.tail _ c))), .tail _ (.tail _ (.tail _ (.tail _ d)))⟩
/-- the kids that the nodes hold are the forest's -/
def KidsIn (nodes : List Nd) : Fo → Prop
  | .nil => True
  | .cons x k r => (∃ nd ∈ nodes, nd.x = x ∧ nd.kids = k.roots) ∧ KidsIn nodes k ∧ KidsIn nodes r
theorem KidsIn.snoc {nodes : List Nd} {y : Addr} (h : ∃ nd ∈ nodes, nd.x = y ∧ nd.kids = []) : ∀ {f : Fo}, KidsIn nodes f → KidsIn nodes (f.snoc y)
  | .nil, _ => ⟨h, trivial, trivial⟩
  | .cons _ _ _, ⟨a, b, c⟩ => ⟨a, b, c.snoc h⟩
theorem KidsIn.add {a b : List Nd} {nd nd' ny : Nd} (hx : nd'.x = nd.x) (hk : nd'.kids = nd.kids ++ [ny.x]) (hy : ny.kids = []) (hu : ∀ q ∈ a ++ b, q.x ≠ nd.x) :
    ∀ {f : Fo}, KidsIn (a ++ nd :: b) f → KidsIn ((a ++ nd' :: b) ++ [ny]) (f.addKid nd.x ny.x)
  | .nil, _ => trivial
  | .cons x k r, ⟨⟨n, hn, e1, e2⟩, p, q⟩ => by
    have ip := p.add hx hk hy hu
    have iq := q.add hx hk hy hu
    have hny : ∃ n ∈ (a ++ nd' :: b) ++ [ny], n.x = ny.x ∧ n.kids = [] := ⟨ny, by simp, rfl, hy⟩
    unfold Fo.addKid
    by_cases h : x = nd.x
    · rw [if_pos h]
      refine ⟨⟨nd', by simp, hx.trans h.symm, ?_⟩, ip.snoc hny, iq⟩
      rw [Fo.roots_snoc, Fo.roots_addKid, hk]
      have : n = nd := by
        simp only [List.mem_append, List.mem_cons] at hn
        rcases hn with hn | hn | hn
        · exact absurd (e1.trans h) (hu n (List.mem_append_left _ hn))
        · exact hn
        · exact absurd (e1.trans h) (hu n (List.mem_append_right _ hn))
      rw [← this, e2]
    · rw [if_neg h]
      refine ⟨⟨n, ?_, e1, by rw [Fo.roots_addKid]; exact e2⟩, ip, iq⟩
      simp only [List.mem_append, List.mem_cons] at hn ⊢
      rcases hn with hn | hn | hn
      · exact .inl (.inl hn)
      · exact absurd (by rw [← e1, hn]) h
      · exact .inl (.inr (.inr hn))
end Mine
end
section
open PySem PySem.W PySem.Calls PyProof.Rows
namespace Mine
theorem range_boot : bootBuiltins (Str.ofString "range") = some (.type "range") := by boot_fast
theorem str_boot : bootBuiltins (Str.ofString "str") = some (.type "str") := by boot_fast
theorem TakeIn.fn {h₀ h : Heap} {L tk pl : Addr} {ns : List Int} {R : List (Addr × Obj)} (K : TakeIn R tk pl ns) (N : News h₀ L h R) : FnAt tk h := by
  obtain ⟨params, body, scope, dc, pm, c', ct, oc, vs, tt, c1, c2, o1, o2, D, ws, _, m1, _⟩ := K
  exact FnAt.of N m1
theorem lk {x y : Str} {v u : Option Value} {m : Str → Option Value} (hne : y ≠ x) (hm : m y = u) : (fun z => if z = x then v else m z) y = u := (if_neg hne).trans hm
theorem strs_snoc {z : Str} {t : Tok} : ∀ {vs : List Value} {ss : List Str}, StrsAre vs ss → StrsAre (vs ++ [.str z t]) (ss ++ [z])
  | _, _, .nil => .cons z t .nil
  | _, _, .cons y u h => .cons y u (strs_snoc h)
theorem Led.left {h₀ h : Heap} {L : Addr} {p : Addr × Obj} {l : List (Addr × Obj)} (x : Led h₀ L h (p :: l)) : News h₀ L h l := x.tail.N
section
variable {w : World} {dp un : Nat} {gd : Option (List Code)} {cn : Str} {cs : Scope} {L a : Addr} {ccd : Value} {cl : List (Str × Addr)} {outer : List Env} {h₀ : Heap} {m : Str → Option Value} {R l : List (Addr × Obj)} {s : Shared} {Q E : Value → Shared → Prop} {prog : Program} {A : Around} {news : List (Addr × Obj)}
/-- take(e), take a local name -/
theorem takeCall {x : Str} {p p2 : Pos} {e : PySem.Expr} {tk : Addr} {env : Env} (hn : wpAny (model prog w) A (eval (.Name x p) env) (fun v s₁ => v = .ref tk ∧ s₁ = s) E s) (hf : FnAt tk s.heap)
    (h : wpAny (model prog w) A (eval e env) (fun v s₁ => FnAt tk s₁.heap ∧ wpAny (model prog w) A (call (.ref tk) [v]) Q E s₁) E s)
    (he : starEach [e] env = (false, eval e env) :: starEach [] env := by rfl) :
    wpAny (model prog w) A (eval (.Call (.Name x p) [e] [] p2) env) Q E s := by
  refine wpAny_Call_ofName (wpAny_mono hn (fun v s₁ h₁ => ?_) fun _ _ z => z)
  obtain ⟨rfl, rfl⟩ := h₁
  refine callWith_F hf ?_ he rfl
  rw [he]
  exact Calls.spliced_cons (wpAny_mono h (fun v s₂ h₂ => Calls.spliced_nil h₂) fun _ _ z => z)
theorem name_L {x : Str} {p : Pos} {v : Value} (F : Fr h₀ L s.heap m) (hv : m x = some v) (hk : cs.kind = .function := by rfl) (hx : (envX cn cs L a ccd cl).kindOf x = some .local := by rfl) (hd : (x == ("__debug__" : Str)) = false := by decide) :
    wpAny (model prog w) A (eval (.Name x p) (envX cn cs L a ccd cl)) (fun v' s₁ => v' = v ∧ s₁ = s) E s := nameX_L F hv ⟨rfl, rfl⟩ hk hx hd
theorem item_l {lv : Value} {nm : Str} {t : Tok} (Γ : Cx w dp un cs outer h₀) (F : Fr h₀ L s.heap m) (Λ : Led h₀ L s.heap l)
    (ret : ∀ x dx c k vs tf s', Same s s' → Fr h₀ L s'.heap m → Led h₀ L s'.heap ((k, W.listOf #[] 0) :: (c, W.listOf #[] 0) :: (x, instObj 133 dx) :: (dx, dictOf (entsD w.params tf vs) 19) :: l) → ItemRec vs nm c k → Q (.ref x) s') :
    wpAny (model PG w) (ktrTop dp un gd cn cs L a ccd cl outer) (call (.ref 133) [lv, .str nm t]) Q E s := by
  refine item_c Γ F Λ.N fun x dx c k vs tf s' e F' N' I l1 l2 l3 l4 => ret x dx c k vs tf s' e F' ⟨news_swap N', ?_⟩ I
  have D := Λ.D
  simp only [List.map_cons, List.nodup_cons, List.mem_cons, not_or]
  have q : ∀ b, dx ≤ b → b ∉ l.map (·.1) := fun b hb hm => by
    obtain ⟨p, hp, e⟩ := List.mem_map.mp hm
    have := l1 p hp
    rw [e] at this
    exact Nat.lt_irrefl _ (Nat.lt_of_lt_of_le this hb)
  have a1 := Nat.lt_trans l2 l3
  have a2 := Nat.lt_trans a1 l4
  exact ⟨⟨Nat.ne_of_gt l4, Nat.ne_of_gt (Nat.lt_trans l3 l4), Nat.ne_of_gt a2, q _ (Nat.le_of_lt a2)⟩, ⟨Nat.ne_of_gt l3, Nat.ne_of_gt a1, q _ (Nat.le_of_lt a1)⟩, ⟨Nat.ne_of_gt l2, q _ (Nat.le_of_lt l2)⟩, q _ (Nat.le_refl _), D⟩

/-- the tree as it grows: what stands between the turns -/
def Grown (nm : Str) (x : Addr) (i : Nat) (nodes : List Nd) (f : Fo) : Prop :=
  nodes.length = i + 1 ∧ (∀ nd ∈ nodes, ItemRec nd.vs nd.nm nd.c nd.k ∧ nd.cs = [] ∧ nd.ws = [] ∧ nd.kids.length ≤ i) ∧ KidsIn nodes (.cons x f .nil) ∧
  (∀ b, b ∈ (Fo.cons x f .nil).pre ↔ b ∈ nodes.map (·.x)) ∧ (Fo.cons x f .nil).pre.length ≤ 2 ^ i ∧ (∃ nd ∈ nodes, nd.x = x ∧ nd.nm = nm)
theorem Grown.next {nm : Str} {x : Addr} {i : Nat} {a b : List Nd} {nd nd' ny : Nd} {f : Fo} (G : Grown nm x i (a ++ nd :: b) f) (hu : ∀ q ∈ a ++ b, q.x ≠ nd.x)
    (e1 : nd'.x = nd.x) (e2 : nd'.kids = nd.kids ++ [ny.x]) (e3 : nd'.nm = nd.nm) (e4 : nd'.cs = nd.cs) (e5 : nd'.ws = nd.ws) (e6 : nd'.vs = nd.vs) (e7 : nd'.c = nd.c) (e8 : nd'.k = nd.k)
    (h1 : ItemRec ny.vs ny.nm ny.c ny.k) (h2 : ny.cs = []) (h3 : ny.ws = []) (h4 : ny.kids = []) : ∃ f', Grown nm x (i + 1) ((a ++ nd' :: b) ++ [ny]) f' := by
  obtain ⟨g1, g2, g3, g4, g5, g6⟩ := G
  refine ⟨if x = nd.x then (f.addKid nd.x ny.x).snoc ny.x else f.addKid nd.x ny.x, ?_, ?_, g3.add e1 e2 h4 hu, ?_, ?_, ?_⟩
  · simp only [List.length_append, List.length_cons, List.length_nil] at g1 ⊢; omega
  · intro q hq
    simp only [List.mem_append, List.mem_cons] at hq
    have old : ∀ q ∈ a ++ nd :: b, ItemRec q.vs q.nm q.c q.k ∧ q.cs = [] ∧ q.ws = [] ∧ q.kids.length ≤ i + 1 := fun q hq => ⟨(g2 q hq).1, (g2 q hq).2.1, (g2 q hq).2.2.1, by have := (g2 q hq).2.2.2; omega⟩
    rcases hq with (hq | rfl | hq) | rfl | hq
    · exact old q (List.mem_append_left _ hq)
    · obtain ⟨z1, z2, z3, z4⟩ := g2 nd (List.mem_append_right _ (.head _))
      exact ⟨by rw [e6, e3, e7, e8]; exact z1, by rw [e4, z2], by rw [e5, z3], by rw [e2, List.length_append, List.length_singleton]; omega⟩
    · exact old q (List.mem_append_right _ (.tail _ hq))
    · exact ⟨h1, h2, h3, by rw [h4]; exact Nat.zero_le _⟩
    · cases hq
  · intro q
    have := Fo.mem_addKid nd.x ny.x q (.cons x f .nil)
    rw [show (Fo.cons x f .nil).addKid nd.x ny.x = .cons x (if x = nd.x then (f.addKid nd.x ny.x).snoc ny.x else f.addKid nd.x ny.x) .nil from rfl] at this
    rw [this, g4, g4]
    simp only [List.map_append, List.map_cons, List.mem_append, List.mem_cons, List.map_nil, List.not_mem_nil, or_false, e1]
    constructor
    · rintro (h | ⟨rfl, _⟩)
      · exact .inl h
      · exact .inr rfl
    · rintro (h | rfl)
      · exact .inl h
      · exact .inr ⟨rfl, .inr (.inl trivial)⟩
  · have := Fo.len_addKid nd.x ny.x (.cons x f .nil)
    rw [show (Fo.cons x f .nil).addKid nd.x ny.x = .cons x (if x = nd.x then (f.addKid nd.x ny.x).snoc ny.x else f.addKid nd.x ny.x) .nil from rfl] at this
    rw [Nat.pow_succ]; omega
  · obtain ⟨q, hq, z1, z2⟩ := g6
    simp only [List.mem_append, List.mem_cons] at hq
    rcases hq with hq | rfl | hq
    · exact ⟨q, by simp [hq], z1, z2⟩
    · exact ⟨nd', by simp, e1.trans z1, e3.trans z2⟩
    · exact ⟨q, by simp [hq], z1, z2⟩
end
end Mine
end
section
open PySem PySem.W PySem.Calls PyProof.Rows
namespace Mine
def pull {α : Type} : Nat → List α → List α
  | 0, l => l
  | n + 1, x :: r => match pull n r with
    | y :: r' => y :: x :: r'
    | [] => [x]
  | _ + 1, [] => []
def pulls {α : Type} : List Nat → List α → List α
  | [], l => l
  | n :: ns, l => pulls ns (pull n l)
theorem pull_perm {α : Type} : ∀ (n : Nat) (l : List α), l.Perm (pull n l)
  | 0, _ => .refl _
  | n + 1, x :: r => by
    have h := (pull_perm n r).cons x
    show (x :: r).Perm (match pull n r with | y :: r' => y :: x :: r' | [] => [x])
    cases hp : pull n r with
    | nil => rw [hp] at h; exact h
    | cons y r' => rw [hp] at h; exact h.trans (.swap ..)
  | _ + 1, [] => .refl _
theorem pulls_perm {α : Type} : ∀ (ns : List Nat) (l : List α), l.Perm (pulls ns l)
  | [], _ => .refl _
  | n :: ns, l => (pull_perm n l).trans (pulls_perm ns _)
theorem Led.pulls {h₀ h : Heap} {L : Addr} {l l' : List (Addr × Obj)} (x : Led h₀ L h l) (ns : List Nat) (e : Mine.pulls ns l = l' := by rfl) : Led h₀ L h l' := Eq.mp (congrArg (Led h₀ L h) e) (x.perm (pulls_perm ns l))
/-- what the frame's names hold, as far as a loop leaves them alone -/
def Has (ks : List (Str × Value)) (m : Str → Option Value) : Prop := ∀ q ∈ ks, m q.1 = some q.2
theorem Has.put {ks : List (Str × Value)} {m : Str → Option Value} {x : Str} {v : Option Value} (h : Has ks m) (hx : (ks.all fun q => !(q.1 == x)) = true := by kernel_rfl) : Has ks (fun y => if y = x then v else m y) :=
  fun q hq => (if_neg (fun e : q.1 = x => by have := List.all_eq_true.mp hx q hq; rw [e, beq_self_eq_true] at this; cases this)).trans (h q hq)
theorem lookup_mem {x : Str} {v : Value} : ∀ {ks : List (Str × Value)}, ks.lookup x = some v → (x, v) ∈ ks
  | (a, u) :: r, h => by
    rw [List.lookup_cons] at h
    cases e : x == a with
    | true => rw [e] at h; rw [eq_of_beq e, ← Option.some.inj h]; exact .head _
    | false => rw [e] at h; exact .tail _ (lookup_mem h)
theorem Has.get {ks : List (Str × Value)} {m : Str → Option Value} {x : Str} {v : Value} (h : Has ks m) (e : ks.lookup x = some v := by rfl) : m x = some v := h (x, v) (lookup_mem e)
theorem Has.nil {m : Str → Option Value} : Has [] m := fun _ h => nomatch h
theorem Has.cons {ks : List (Str × Value)} {m : Str → Option Value} {x : Str} {v : Value} (h : Has ks m) (e : m x = some v := by rfl) : Has ((x, v) :: ks) m := fun q hq => by
  rcases List.mem_cons.mp hq with rfl | hq
  · exact e
  · exact h q hq
section
variable {prog : Program} {w : World} {A : Around} {E : Value → Shared → Prop} {s : Shared} {K : Frag} {h₀ : Heap} {L x C dx f : Addr} {m : Str → Option Value} {news : List (Addr × Obj)} {name : Str} {vs : List (Str × Value)} {tf : Nat → Tok} {n : Nat}
theorem method_rec {pl : Sem Bool} {Q : Value × List Value → Shared → Prop} (F : Fr h₀ L s.heap m) (X₀ : K.In h₀) (N : News h₀ L s.heap news) (h1 : (x, instObj C dx) ∈ news) (h2 : (dx, dictOf (entsD w.params tf vs) n) ∈ news) (hg : plainGet K C name = true)
    (hf : findIn K (.ref C) name = some (some (.ref f))) (ht : isFn K (.ref f) = true) (hl : vs.lookup name = none) (h : Q (.ref f, [.ref x]) s) : wpAny (model prog w) A (getMethod (.ref x) name pl) Q E s :=
  method_inst F X₀ (InstAt.of_news N h1 h2) hg hf ht (by rw [getL_ents, hl]) h
end
theorem perm_blk2 (P : Params) (a b : List Nd) (nd ny : Nd) (RR : List (Addr × Obj)) :
    (nd.kE :: nd.cE :: nd.iE :: nd.dE P :: ny.kE :: ny.cE :: ny.iE :: ny.dE P :: (blocks P a ++ (blocks P b ++ RR))).Perm (blocks P ((a ++ nd :: b) ++ [ny]) ++ RR) := by
  refine .trans ?_ (.trans (perm_blk P a b nd (blocks P [ny] ++ RR)).symm (.of_eq (by rw [blocks_app P (a ++ nd :: b) [ny], List.append_assoc])))
  refine ((((?_ : List.Perm _ _).cons _).cons _).cons _).cons _
  have h1 : ∀ X : List (Addr × Obj), (blocks P [ny] ++ X).Perm (ny.kE :: ny.cE :: ny.iE :: ny.dE P :: X) := fun X => .refl _
  refine (List.perm_append_comm_assoc (blocks P [ny]) (blocks P a) (blocks P b ++ RR)).trans (.append_left _ ?_)
  exact List.perm_append_comm_assoc (blocks P [ny]) (blocks P b) RR
theorem split_at {nodes : List Nd} {r : Nat} (h : r < nodes.length) : ∃ a nd b, nodes = a ++ nd :: b ∧ ((nodes.map Nd.x).map Value.ref)[r]? = some (.ref nd.x) := by
  refine ⟨nodes.take r, nodes[r], nodes.drop (r + 1), ?_, ?_⟩
  · rw [List.getElem_cons_drop, List.take_append_drop]
  · rw [List.getElem?_map, List.getElem?_map, List.getElem?_eq_getElem h]; rfl
end Mine
end
section
open PySem PySem.W PySem.Calls PyProof.Rows
namespace Mine
theorem strs_get {z : Str} : ∀ {vs : List Value} {ss : List Str} {i : Nat}, StrsAre vs ss → ss[i]? = some z → ∃ t, vs[i]? = some (.str z t)
  | _, _, 0, .cons y u h, e => ⟨u, by cases e; rfl⟩
  | _, _, i + 1, .cons y u h, e => strs_get (i := i) h e
def tupK' (K : Frag) (a : Addr) (vs : List Value) : Prop := ∃ dd n sl, K.lookup a = some ⟨.type "tuple", dd, .seq vs.toArray n, sl⟩
noncomputable def strsOf : List Value → Option (List Str)
  | [] => some []
  | .str z _ :: r => (strsOf r).map (z :: ·)
  | _ :: _ => none
theorem strsOf_are : ∀ {vs : List Value} {ss : List Str}, strsOf vs = some ss → StrsAre vs ss
  | [], _, h => by cases h; exact .nil
  | .str z t :: r, _, h => by
    unfold strsOf at h
    cases e : strsOf r with
    | none => rw [e] at h; cases h
    | some q => rw [e] at h; cases h; exact .cons z t (strsOf_are e)
noncomputable def strTup (K : Frag) (a : Addr) : Option (List Str) :=
  match K.lookup a with
  | some o => if o.cls == .type "tuple" then (match o.data with | .seq vs _ => strsOf vs.toList | _ => none) else none
  | none => none
theorem strTup_of {K : Frag} {a : Addr} {ss : List Str} (h : strTup K a = some ss) : ∃ vs, tupK' K a vs ∧ StrsAre vs ss := by
  unfold strTup at h
  cases e : K.lookup a with
  | none => rw [e] at h; cases h
  | some o =>
    rw [e] at h
    obtain ⟨c, d, dt, sl⟩ := o
    simp only at h
    by_cases hc : (c == .type "tuple") = true
    · rw [if_pos hc] at h
      have hc : c = .type "tuple" := eq_of_beq hc
      subst hc
      cases dt with
      | seq vs n => exact ⟨vs.toList, ⟨d, n, sl, by simpa using e⟩, strsOf_are h⟩
      | _ => cases h
    · rw [if_neg hc] at h; cases h
theorem names_K (P : Params) : ∃ vs, tupK' (Mine.heap39 P) 219 vs ∧ StrsAre vs NAMES := strTup_of (by kernel_rfl)
section
variable {w : World} {dp un : Nat} {gd : Option (List Code)} {cn : Str} {cs : Scope} {L a : Addr} {ccd : Value} {cl : List (Str × Addr)} {outer : List Env} {h₀ : Heap} {m : Str → Option Value} {R l : List (Addr × Obj)} {s : Shared} {Q E : Value → Shared → Prop} {prog : Program} {A : Around} {news : List (Addr × Obj)}
/-- an item of a tuple of names of the text's -/
theorem strTup_sub {K : Frag} {value slice : PySem.Expr} {r : Int} {u : Tok} {d : Addr} {vs : List Value} {ss : List Str} (F : Fr h₀ L s.heap m) (X : K.In h₀) (hk : tupK' K d vs) (hs : StrsAre vs ss) (h0 : 0 ≤ r) (h1 : r < ss.length) (h2 : ss.length < 1000)
    (h : ∀ z t, z ∈ ss → ss[r.toNat]? = some z → Q (.str z t) s) (hsb : subscripted slice false (.ref d) (.int r u) = operate [.ref d, .int r u] (getItem (.ref d) (.int r u)) := by with_unfolding_all rfl) :
    wpAny (model prog w) A (subscriptTail value slice (.ref d) (.int r u)) Q E s := by
  obtain ⟨_, n, _, hl⟩ := hk
  have hlt : r.toNat < ss.length := by omega
  have hg := List.getElem?_eq_getElem hlt
  obtain ⟨t, ht⟩ := strs_get hs hg
  have hlen : vs.length = ss.length := hs.length
  have e : (2 : Int) ^ 63 = 9223372036854775808 := by decide
  exact topTup_K F X hl (by rw [e]; omega) (by rw [e]; omega) (seqIndex_of h0 (by omega)) ht (h _ t (List.getElem_mem hlt) hg) hsb
theorem newTup_l {vs : List Value} (F : Fr h₀ L s.heap m) (Λ : Led h₀ L s.heap l) (hz : vs.length ≤ 1000) (ret : ∀ q s', Same s s' → Fr h₀ L s'.heap m → Led h₀ L s'.heap ((q, tupOf vs) :: l) → (∀ p ∈ l, p.1 < q) → Q (.ref q) s') : wpAny (model prog w) A (newTuple vs) Q E s :=
  newTuple_N F Λ.N (fun h' F' N' => ret _ _ ⟨rfl, rfl, rfl⟩ F' (Λ.cons N' fun p hp => Heap.lt_size (Λ.N p hp).1) fun p hp => Heap.lt_size (Λ.N p hp).1) (by rw [sizeLine_eq]; omega)
theorem newList_l {vs : List Value} (F : Fr h₀ L s.heap m) (Λ : Led h₀ L s.heap l) (hz : vs.length ≤ 1000) (ret : ∀ q s', Same s s' → Fr h₀ L s'.heap m → Led h₀ L s'.heap ((q, W.listOf vs.toArray 0) :: l) → (∀ p ∈ l, p.1 < q) → Q (.ref q) s') : wpAny (model prog w) A (newList vs) Q E s :=
  newList_N F Λ.N (fun h' F' N' => ret _ _ ⟨rfl, rfl, rfl⟩ F' (Λ.cons N' fun p hp => Heap.lt_size (Λ.N p hp).1) fun p hp => Heap.lt_size (Λ.N p hp).1) (by rw [sizeLine_eq]; omega)
/-- an append to a list of the ledger -/
theorem app_l {D : Addr} {its : List Value} {n : Nat} {v : Value} (F : Fr h₀ L s.heap m) (Λ : Led h₀ L s.heap ((D, W.listOf its.toArray n) :: R)) (hz : its.length ≤ 10000)
    (ret : ∀ s', Same s s' → Fr h₀ L s'.heap m → Led h₀ L s'.heap ((D, W.listOf (its ++ [v]).toArray (n + 1)) :: R) → Q .none s') : wpAny (model prog w) A (call (.builtin "list.append") [.ref D, v]) Q E s :=
  append_l F Λ.N Λ.ne hz fun s' e F' N' => ret s' e F' (Λ.upd N')
end
theorem KidsIn.sub {N N' : List Nd} (h : ∀ nd ∈ N, ∃ nd' ∈ N', nd'.x = nd.x ∧ nd'.kids = nd.kids) : ∀ {f : Fo}, KidsIn N f → KidsIn N' f
  | .nil, _ => trivial
  | .cons _ _ _, ⟨⟨nd, hn, e1, e2⟩, b, c⟩ => ⟨let ⟨nd', hn', a1, a2⟩ := h nd hn; ⟨nd', hn', a1.trans e1, a2.trans e2⟩, b.sub h, c.sub h⟩
/-- a tree of items: the root's name, the words of the conditions that stand in it -/
def TreeIn (P : Params) (nms : List Str) (R : List (Addr × Obj)) (x : Addr) (nm : Str) (zs : List Str) : Prop :=
  ∃ f wt, FoIn P R wt (.cons x f .nil) ∧ (Fo.cons x f .nil).pre.length ≤ 8 ∧ zs.length ≤ 8 ∧ NameAt P R x nm ∧ (∀ z, z ∈ zs ↔ ∃ b ∈ (Fo.cons x f .nil).pre, z ∈ wt b) ∧ ∀ z ∈ zs, z ∈ nms
theorem TreeIn.mono {P : Params} {nms : List Str} {R R' : List (Addr × Obj)} {x : Addr} {nm : Str} {zs : List Str} (h : ∀ p ∈ R, p ∈ R') (t : TreeIn P nms R x nm zs) : TreeIn P nms R' x nm zs := by
  obtain ⟨f, wt, a, b, c, d, e⟩ := t
  exact ⟨f, wt, a.mono h, b, c, d.mono h, e⟩
/-- what stands in the second loop of _law_root -/
def J2 (P : Params) (pl fl ln x : Addr) (xs : List Addr) (nl : Nat) (f : Fo) (nm : Str) (fs : List Str) (k0 : Int) (RR : List (Addr × Obj)) (kb : Int) (zb : Nat) (ks : List (Str × Value)) (m : Str → Option Value) (l : List (Addr × Obj)) : Prop :=
  ∃ nodes Rn zs k t fvs nf, l = (pl, W.listOf [Value.int k t].toArray 0) :: (fl, W.listOf fvs.toArray nf) :: (ln, W.listOf (xs.map Value.ref).toArray nl) :: (blocks P nodes ++ (Rn ++ RR)) ∧
    nodes.map Nd.x = xs ∧ (∀ nd ∈ nodes, ItemRec nd.vs nd.nm nd.c nd.k ∧ NamedsIn P Rn nd.cs nd.ws ∧ nd.cs.length ≤ zb) ∧ KidsIn nodes (.cons x f .nil) ∧ (∃ nd ∈ nodes, nd.x = x ∧ nd.nm = nm) ∧
    StrsAre fvs (fs ++ zs) ∧ zs.length ≤ zb ∧ (∀ z, z ∈ zs ↔ ∃ nd ∈ nodes, z ∈ nd.ws) ∧ (∀ z ∈ zs, z ∈ NAMES) ∧ k0 ≤ k ∧ k ≤ kb ∧ Has ks m
noncomputable def wtOf (nodes : List Nd) (b : Addr) : List Str := match nodes.find? fun nd => nd.x == b with | some nd => nd.ws | none => []
theorem find_x {nd : Nd} : ∀ {nodes : List Nd}, (nodes.map Nd.x).Nodup → nd ∈ nodes → (nodes.find? fun q => q.x == nd.x) = some nd
  | q :: r, hd, hm => by
    rw [List.map_cons, List.nodup_cons] at hd
    rw [List.find?_cons]
    rcases List.mem_cons.mp hm with rfl | hm
    · rw [beq_self_eq_true]
    · have : (q.x == nd.x) = false := by
        cases e : q.x == nd.x with
        | false => rfl
        | true => exact absurd (List.mem_map.mpr ⟨nd, hm, (eq_of_beq e).symm⟩) hd.1
      rw [this]; exact find_x hd.2 hm
theorem wt_node {nodes : List Nd} {nd : Nd} (hd : (nodes.map Nd.x).Nodup) (hm : nd ∈ nodes) : wtOf nodes nd.x = nd.ws := by unfold wtOf; rw [find_x hd hm]
theorem blk_sub (P : Params) : ∀ nodes : List Nd, (nodes.map Nd.x).Sublist ((blocks P nodes).map (·.1))
  | [] => .slnil
  | _ :: r => .cons _ (.cons _ (.cons_cons _ (.cons _ (blk_sub P r))))
theorem foIn_of {P : Params} {nodes : List Nd} {Rn RR : List (Addr × Obj)} {wt : Addr → List Str} (hn : ∀ nd ∈ nodes, ItemRec nd.vs nd.nm nd.c nd.k ∧ NamedsIn P Rn nd.cs nd.ws) (hR : ∀ p ∈ blocks P nodes, p ∈ RR) (hRn : ∀ p ∈ Rn, p ∈ RR)
    (hw : ∀ nd ∈ nodes, wt nd.x = nd.ws) : ∀ {f : Fo}, KidsIn nodes f → FoIn P RR wt f
  | .nil, _ => trivial
  | .cons _ _ _, ⟨⟨nd, hm, e1, e2⟩, b, c⟩ => by
    refine ⟨?_, foIn_of hn hR hRn hw b, foIn_of hn hR hRn hw c⟩
    obtain ⟨m1, m2, m3, m4⟩ := blk_mem (P := P) hm
    rw [← e1, ← e2, hw nd hm]
    exact ⟨nd.dx, nd.vs, nd.tf, nd.nm, nd.c, nd.k, nd.nk, nd.nc, nd.cs, hR _ m3, hR _ m4, (hn nd hm).1, hR _ m1, hR _ m2, (hn nd hm).2.mono hRn⟩
theorem perm_in {α : Type} (c : α) (a b d : List α) : (c :: (a ++ (b ++ d))).Perm (a ++ (b ++ c :: d)) :=
  (List.perm_middle (l₁ := a)).symm.trans ((List.perm_middle (l₁ := b)).symm.append_left a)
theorem perm_out {α : Type} (q a b d : List α) : (q ++ (a ++ (b ++ d))).Perm (a ++ ((q ++ b) ++ d)) := by
  rw [List.append_assoc]; exact List.perm_append_comm_assoc q a (b ++ d)
section
variable {w : World} {dp un : Nat} {gd : Option (List Code)} {cn : Str} {cs : Scope} {L a : Addr} {ccd : Value} {cl : List (Str × Addr)} {outer : List Env} {h₀ : Heap} {m : Str → Option Value} {l : List (Addr × Obj)} {s : Shared} {Q E : Value → Shared → Prop}
theorem named_l {nm : Str} {t : Tok} {rw : Addr} {rvs : List Value} (Γ : Cx w dp un cs outer h₀) (F : Fr h₀ L s.heap m) (Λ : Led h₀ L s.heap l) (hr : (rw, tupOf rvs) ∈ l)
    (ret : ∀ x dx vs tf s', Same s s' → Fr h₀ L s'.heap m → Led h₀ L s'.heap ((x, instObj 86 dx) :: (dx, dictOf (entsD w.params tf vs) 2) :: l) → NamedRec vs nm → Q (.ref x) s') :
    wpAny (model PG w) (ktrTop dp un gd cn cs L a ccd cl outer) (call (.ref 86) [.str nm t, .ref rw]) Q E s :=
  named_c Γ F Λ.N hr fun x dx vs tf s' e F' N' I l1 l2 => ret x dx vs tf s' e F' ((Λ.cons (fun q hq => N' q (.tail _ hq)) l1).cons N' fun q hq => by
    rcases List.mem_cons.mp hq with rfl | hq
    · exact l2
    · exact Nat.lt_trans (l1 q hq) l2) I
end
end Mine
end
section
open PySem PySem.W PySem.Calls PyProof.Rows
namespace Mine
/-- a call of a def of the text's, seen from within -/
def Fn (w : World) (d : Nat) (cs : Scope) (cl : List (Str × Addr)) (A : Around) (env : Env) (L : Addr) (h₀ : Heap) : Prop :=
  ∃ dp un gd cn a ccd outer, A = ktrTop dp un gd cn cs L a ccd cl outer ∧ env = envX cn cs L a ccd cl ∧ Cx w dp un cs outer h₀ ∧ dp ≤ d ∧ un ≤ 4 * d + 100
def nok (cs : Scope) (k : NameKind) (x : Str) : Bool := cs.names.lookup x == some k && !(x == ("__debug__" : Str))
theorem nok_of {cs : Scope} {k : NameKind} {x : Str} (h : nok cs k x = true) : cs.names.lookup x = some k ∧ (x == ("__debug__" : Str)) = false := by
  unfold nok at h
  simp only [Bool.and_eq_true, beq_iff_eq, Bool.not_eq_true'] at h
  exact h
/-- the frame after a store -/
def Put (x : Str) (v : Value) (m m' : Str → Option Value) : Prop := m' = fun y => if y = x then some v else m y
theorem Put.has {x : Str} {v : Value} {m m' : Str → Option Value} {ks : List (Str × Value)} (p : Put x v m m') (h : Has ks m) (hx : (ks.all fun q => !(q.1 == x)) = true := by kernel_rfl) : Has ((x, v) :: ks) m' :=
  Has.cons (by rw [p]; exact h.put hx) (by rw [p]; exact if_pos rfl)
theorem Has.sub {ks ks' : List (Str × Value)} {m : Str → Option Value} (h : Has ks m) (hs : ∀ q ∈ ks', q ∈ ks) : Has ks' m := fun q hq => h q (hs q hq)
theorem Led.up {h₀ h h' : Heap} {L b c : Addr} {o : Obj} {l : List (Addr × Obj)} (x : Led h₀ L h l ∧ ∀ p ∈ l, p.1 < b) (N : News h₀ L h' ((b, o) :: l)) (hc : b < c) : Led h₀ L h' ((b, o) :: l) ∧ ∀ p ∈ (b, o) :: l, p.1 < c :=
  ⟨x.1.cons N x.2, fun p hp => by
    rcases List.mem_cons.mp hp with rfl | hp
    · exact hc
    · exact Nat.lt_trans (x.2 p hp) hc⟩
namespace Fn
variable {w : World} {d : Nat} {cs : Scope} {cl : List (Str × Addr)} {A : Around} {env : Env} {L : Addr} {h₀ : Heap} {m : Str → Option Value} {R l : List (Addr × Obj)} {s : Shared} {E : Value → Shared → Prop} {x : Str} {p p2 : Pos} {v : Value}
theorem X (Γ : Fn w d cs cl A env L h₀) : (Mine.heap39 w.params).In h₀ := by
  obtain ⟨_, _, _, _, _, _, _, _, _, c, _⟩ := Γ
  exact c.X
theorem k (Γ : Fn w d cs cl A env L h₀) : cs.kind = .function := by
  obtain ⟨_, _, _, _, _, _, _, _, _, c, _⟩ := Γ
  obtain ⟨_, _, _, _, _, _, _, _, _, _, h, _⟩ := c
  exact h
theorem inter (Γ : Fn w d cs cl A env L h₀) : interactive env = false := by
  have hk := Γ.k
  obtain ⟨_, _, _, _, _, _, _, _, rfl, _⟩ := Γ
  show (cs.kind == .module && _) = false
  rw [hk]; rfl
theorem lcl {Q : Value → Shared → Prop} (Γ : Fn w d cs cl A env L h₀) (F : Fr h₀ L s.heap m) (hv : m x = some v) (h : Q v s) (hx : nok cs .local x = true := by kernel_rfl) : wpAny (model PG w) A (eval (.Name x p) env) Q E s := by
  have hk := Γ.k
  obtain ⟨_, _, _, _, _, _, _, rfl, rfl, c, _⟩ := Γ
  exact nameX_L F hv h hk (nok_of hx).1 (nok_of hx).2
theorem attr {Q : Value → Shared → Prop} {C dx x' : Addr} {at' : Str} {vs : List (Str × Value)} {tf : Nat → Tok} {n : Nat} (Γ : Fn w d cs cl A env L h₀) (F : Fr h₀ L s.heap m) (N : News h₀ L s.heap l) (hv : m x = some (.ref x')) (h1 : (x', instObj C dx) ∈ l) (h2 : (dx, dictOf (entsD w.params tf vs) n) ∈ l)
    (hl : vs.lookup at' = some v) (h : Q v { s with toks := s.toks + 1 }) (hh : handedIn v = true := by rfl) (hp : plainAttr (Mine.heap39 w.params) C at' = true := by kernel_rfl) (hx : nok cs .local x = true := by kernel_rfl) :
    wpAny (model PG w) A (eval (.Attribute (.Name x p) at' p2) env) Q E s := Attribute_name (Γ.lcl F hv (get_rec F Γ.X N h1 h2 hp hl hh h) hx)
theorem glb {Q : Value → Shared → Prop} (Γ : Fn w d cs cl A env L h₀) (F : Fr h₀ L s.heap m) (v : Value) (h : Q v s) (e : nsIn (Mine.heap39 w.params) mainGlobals x = some (some v) := by kernel_rfl) (hx : nok cs .globalImplicit x = true := by kernel_rfl) :
    wpAny (model PG w) A (eval (.Name x p) env) Q E s := by
  have hk := Γ.k
  obtain ⟨_, _, _, _, _, _, _, rfl, rfl, c, _⟩ := Γ
  exact c.nameK F e h hk (nok_of hx).1 (nok_of hx).2
theorem blt {Q : Value → Shared → Prop} (Γ : Fn w d cs cl A env L h₀) (F : Fr h₀ L s.heap m) (hv : bootBuiltins x = some v) (h : Q v s) (e : nsIn (Mine.heap39 w.params) mainGlobals x = some none := by kernel_rfl) (hn : x ≠ "__name__" := by decide +kernel)
    (hx : nok cs .globalImplicit x = true := by kernel_rfl) : wpAny (model PG w) A (eval (.Name x p) env) Q E s := by
  have hk := Γ.k
  obtain ⟨_, _, _, _, _, _, _, rfl, rfl, c, _⟩ := Γ
  exact c.nameB F e hv hn h hk (nok_of hx).1 (nok_of hx).2
/-- f(e, ..), f a def or a class of the text's -/
theorem callK {e : PySem.Expr} {rest : List PySem.Expr} {Q : Value → Shared → Prop} (Γ : Fn w d cs cl A env L h₀) (F : Fr h₀ L s.heap m) (v : Value)
    (h : wpAny (model PG w) A (spliced (backTo p2 (starEach (e :: rest) env))) (fun vs s₁ => (∃ m', Fr h₀ L s₁.heap m') ∧ wpAny (model PG w) A (call v vs) Q E s₁) E s)
    (e' : nsIn (Mine.heap39 w.params) mainGlobals x = some (some v) := by kernel_rfl) (hkp : keepIn (Mine.heap39 w.params) v = true := by kernel_rfl) (hx : nok cs .globalImplicit x = true := by kernel_rfl)
    (he : starEach (e :: rest) env = (false, eval e env) :: starEach rest env := by rfl) (hplain : (backTo p2 (starEach rest env)).any (·.1) = false := by rfl) :
    wpAny (model PG w) A (eval (.Call (.Name x p) (e :: rest) [] p2) env) Q E s := by
  have hk := Γ.k
  obtain ⟨_, _, _, _, _, _, _, rfl, rfl, c, _⟩ := Γ
  exact c.callK F e' hkp h hk (nok_of hx).1 (nok_of hx).2 he hplain
theorem callK0 {Q : Value → Shared → Prop} (Γ : Fn w d cs cl A env L h₀) (F : Fr h₀ L s.heap m) (v : Value) (h : wpAny (model PG w) A (call v []) Q E s)
    (e' : nsIn (Mine.heap39 w.params) mainGlobals x = some (some v) := by kernel_rfl) (hkp : keepIn (Mine.heap39 w.params) v = true := by kernel_rfl) (hx : nok cs .globalImplicit x = true := by kernel_rfl) :
    wpAny (model PG w) A (eval (.Call (.Name x p) [] [] p2) env) Q E s := by
  have hk := Γ.k
  obtain ⟨_, _, _, _, _, _, _, rfl, rfl, c, _⟩ := Γ
  exact c.callK0 F e' hkp h hk (nok_of hx).1 (nok_of hx).2
theorem callB1 {id : String} {e : PySem.Expr} {Q : Value → Shared → Prop} (Γ : Fn w d cs cl A env L h₀) (F : Fr h₀ L s.heap m) (hv : bootBuiltins x = some (.builtin id)) (h : wpAny (model PG w) A (eval e env) (fun v s₁ => wpAny (model PG w) A (call (.builtin id) [v]) Q E s₁) E s)
    (e' : nsIn (Mine.heap39 w.params) mainGlobals x = some none := by kernel_rfl) (hn : x ≠ "__name__" := by decide +kernel) (hx : nok cs .globalImplicit x = true := by kernel_rfl)
    (he : starEach [e] env = (false, eval e env) :: starEach [] env := by rfl) : wpAny (model PG w) A (eval (.Call (.Name x p) [e] [] p2) env) Q E s := by
  have hk := Γ.k
  obtain ⟨_, _, _, _, _, _, _, rfl, rfl, c, _⟩ := Γ
  exact c.callB1 F e' hv hn h hk (nok_of hx).1 (nok_of hx).2 he
theorem callT1 {id : String} {e : PySem.Expr} {Q : Value → Shared → Prop} (Γ : Fn w d cs cl A env L h₀) (F : Fr h₀ L s.heap m) (hv : bootBuiltins x = some (.type id)) (h : wpAny (model PG w) A (eval e env) (fun v s₁ => wpAny (model PG w) A (call (.type id) [v]) Q E s₁) E s)
    (e' : nsIn (Mine.heap39 w.params) mainGlobals x = some none := by kernel_rfl) (hn : x ≠ "__name__" := by decide +kernel) (hx : nok cs .globalImplicit x = true := by kernel_rfl)
    (he : starEach [e] env = (false, eval e env) :: starEach [] env := by rfl) : wpAny (model PG w) A (eval (.Call (.Name x p) [e] [] p2) env) Q E s := by
  have hk := Γ.k
  obtain ⟨_, _, _, _, _, _, _, rfl, rfl, c, _⟩ := Γ
  exact c.callT1 F e' hv hn h hk (nok_of hx).1 (nok_of hx).2 he
/-- a def of the text's is entered -/
theorem enter {f : Addr} {args : List Value} {name qual : Str} {params : Arguments} {body : List Stmt} {scope : Scope} {dV kV doc pm cdv ct oc : Value} {an od : Option Addr} {osl : Array (Option Value)} (binds : List (Str × Value)) {Q : Value → Shared → Prop}
    (Γ : Fn w d cs cl A env L h₀) (hdp : d < 880) (F : Fr h₀ L s.heap m) (Λ : Led h₀ L s.heap l)
    (ho : (Mine.heap39 w.params).lookup f = some ⟨oc, od, .func (fnOf name qual params body scope dV kV doc pm an cdv ct), osl⟩) (hcd : codeIn (Mine.heap39 w.params) cdv qual = true)
    (hbind : bindArgs (fnOf name qual params body scope dV kV doc pm an cdv ct) ⟨args, []⟩ = pure binds) (hloc : (binds.all fun x => decide (scope.names.lookup x.1 = some .local)) = true)
    (hsc : (!scope.isCoroutine && !scope.isGenerator && scope.kind == .function && scope.names.all fun x => x.2 != .cell) = true)
    (h : ∀ A' env' g L' (s₁ : Shared) m₁ (Q' : Flow → Shared → Prop) (E' : Value → Shared → Prop), Same s s₁ → Fn w (d + 1) scope [] A' env' L' g → Fr g L' s₁.heap m₁ → (∀ y v, binds.reverse.lookup y = some v → m₁ y = some v) → Led g L' s₁.heap l →
      PassesOwn (model PG w) A' env' E' →
      (∀ fl v s' m' l', (fl = .ret v ∨ (fl = .next ∧ v = .none)) → Fr g L' s'.heap m' → Led g L' s'.heap l' → (Fr h₀ L s'.heap m → Led h₀ L s'.heap l' → Q v s') → Q' fl s') →
      wpAny (model PG w) A' (execs body env') Q' E' s₁) :
    wpAny (model PG w) A (call (.ref f) args) Q E s := by
  obtain ⟨dp, un, gd, cn, a, ccd, outer, rfl, rfl, c, hd1, hu1⟩ := Γ
  simp only [Bool.and_eq_true, Bool.not_eq_true', beq_iff_eq] at hsc
  obtain ⟨⟨⟨h1, h2⟩, h3⟩, h4⟩ := hsc
  refine c.enter (by omega) (by omega) F Λ ho hcd (BindsTo.of_eq hbind) hloc h1 h2 h3 (fun x hx e => ?_) fun g L' s₁ Q' E' e₁ Γ₁ F₁ Λ₁ hE fin => ?_
  · have := List.all_eq_true.mp h4 x hx
    rw [e] at this
    exact absurd this (by decide)
  · exact h _ _ g L' s₁ _ Q' E' e₁ ⟨_, _, _, _, _, _, _, rfl, rfl, Γ₁, by omega, by omega⟩ F₁ (fun _ _ e => e) Λ₁ hE fin
/-- a local name is stored -/
theorem st {Q : Unit → Shared → Prop} (Γ : Fn w d cs cl A env L h₀) (F : Fr h₀ L s.heap m) (Λ : Led h₀ L s.heap l) (h : ∀ s' m', Same s s' → Fr h₀ L s'.heap m' → Put x v m m' → Led h₀ L s'.heap l → Q () s')
    (hx : nok cs .local x = true := by kernel_rfl) : wpAny (model PG w) A (storeName env x v) Q E s := by
  have hk := Γ.k
  obtain ⟨_, _, _, _, _, _, _, rfl, rfl, c, _⟩ := Γ
  exact st_L F Λ (fun s' e F' Λ' => h s' _ e F' rfl Λ') hk (nok_of hx).1
/-- Item(.., name) -/
theorem item {Q : Value → Shared → Prop} {lv : Value} {nm : Str} {t : Tok} (Γ : Fn w d cs cl A env L h₀) (F : Fr h₀ L s.heap m) (Λ : Led h₀ L s.heap l)
    (ret : ∀ x dx c k vs tf s', Same s s' → Fr h₀ L s'.heap m → Led h₀ L s'.heap ((k, W.listOf #[] 0) :: (c, W.listOf #[] 0) :: (x, instObj 133 dx) :: (dx, dictOf (entsD w.params tf vs) 19) :: l) → ItemRec vs nm c k → Q (.ref x) s') :
    wpAny (model PG w) A (call (.ref 133) [lv, .str nm t]) Q E s := by
  obtain ⟨_, _, _, _, _, _, _, rfl, rfl, c, _⟩ := Γ
  exact item_l c F Λ ret
theorem named {Q : Value → Shared → Prop} {nm : Str} {t : Tok} {rw : Addr} {rvs : List Value} (Γ : Fn w d cs cl A env L h₀) (F : Fr h₀ L s.heap m) (Λ : Led h₀ L s.heap l) (hr : (rw, tupOf rvs) ∈ l)
    (ret : ∀ x dx vs tf s', Same s s' → Fr h₀ L s'.heap m → Led h₀ L s'.heap ((x, instObj 86 dx) :: (dx, dictOf (entsD w.params tf vs) 2) :: l) → NamedRec vs nm → Q (.ref x) s') :
    wpAny (model PG w) A (call (.ref 86) [.str nm t, .ref rw]) Q E s := by
  obtain ⟨_, _, _, _, _, _, _, rfl, rfl, c, _⟩ := Γ
  exact named_l c F Λ hr ret
theorem file {Q : Value → Shared → Prop} {nm : Str} {t : Tok} (Γ : Fn w d cs cl A env L h₀) (F : Fr h₀ L s.heap m) (Λ : Led h₀ L s.heap l)
    (ret : ∀ x dx vs tf s', Same s s' → Fr h₀ L s'.heap m → Led h₀ L s'.heap ((x, instObj 213 dx) :: (dx, dictOf (entsD w.params tf vs) 10) :: l) → FileRec vs → Q (.ref x) s') :
    wpAny (model PG w) A (call (.ref 213) [.str nm t]) Q E s := by
  obtain ⟨_, _, _, _, _, _, _, rfl, rfl, c, _⟩ := Γ
  exact file_c c F Λ.N fun x dx b c vs tf s' e F' N' I l1 l2 _ _ => ret x dx vs tf s' e F' ((Λ.cons (fun q hq => N' q (.tail _ (.tail _ (.tail _ hq)))) l1).cons (fun q hq => N' q (.tail _ (.tail _ hq))) fun q hq => by
    rcases List.mem_cons.mp hq with rfl | hq
    · exact l2
    · exact Nat.lt_trans (l1 q hq) l2) I
theorem data {Q : Value → Shared → Prop} (Γ : Fn w d cs cl A env L h₀) (F : Fr h₀ L s.heap m) (Λ : Led h₀ L s.heap l)
    (ret : ∀ x dx wl ll fd sl vs tf s', Same s s' → Fr h₀ L s'.heap m → Led h₀ L s'.heap ((sl, W.listOf #[] 0) :: (fd, dictOf [] 0) :: (ll, W.listOf #[] 0) :: (wl, W.listOf #[] 0) :: (x, instObj 159 dx) :: (dx, dictOf (entsD w.params tf vs) 6) :: l) → DataRec vs wl ll fd sl → (fd == sysModules) = false → Q (.ref x) s') :
    wpAny (model PG w) A (call (.ref 159) []) Q E s := by
  obtain ⟨_, _, _, _, _, _, _, rfl, rfl, c, _⟩ := Γ
  refine data_c c F Λ.N fun x dx wl ll fd sl ix vs tf s' e F' N' I l1 l2 l3 l4 l5 l6 _ => ret x dx wl ll fd sl vs tf s' e F' ?_ I (beq_eq_false_iff_ne.mpr (Nat.ne_of_gt (Nat.lt_of_le_of_lt (Nat.succ_le_of_lt (Nat.lt_of_le_of_lt (Nat.zero_le _) l2)) (Nat.lt_trans l3 (Nat.lt_trans l4 l5)))))
  have N2 : News h₀ L s'.heap ((ix, dictOf [] 0) :: (sl, W.listOf #[] 0) :: (fd, dictOf [] 0) :: (ll, W.listOf #[] 0) :: (wl, W.listOf #[] 0) :: (x, instObj 159 dx) :: (dx, dictOf (entsD w.params tf vs) 6) :: l) :=
    fun q hq => N' q ((pulls_perm [1, 2, 3, 4] _).mem_iff.mpr hq)
  have t : ∀ {a : Addr × Obj} {l' : List (Addr × Obj)}, News h₀ L s'.heap (a :: l') → News h₀ L s'.heap l' := fun N q hq => N q (.tail _ hq)
  exact (Led.up (Led.up (Led.up (Led.up (Led.up ⟨Λ, l1⟩ (t (t (t (t (t (t N2)))))) l2) (t (t (t (t (t N2))))) l3) (t (t (t (t N2)))) l4) (t (t (t N2))) l5) (t (t N2)) l6).1.cons (t N2)
    (Led.up (Led.up (Led.up (Led.up (Led.up ⟨Λ, l1⟩ (t (t (t (t (t (t N2)))))) l2) (t (t (t (t (t N2))))) l3) (t (t (t (t N2)))) l4) (t (t (t N2))) l5) (t (t N2)) l6).2
theorem add {Q : Value → Shared → Prop} {x dx y dy kx : Addr} {vx vy : List (Str × Value)} {tx ty : Nat → Tok} {nx ny n : Nat} {ks : List Value} (Γ : Fn w d cs cl A env L h₀) (F : Fr h₀ L s.heap m)
    (Λ : Led h₀ L s.heap ((dy, dictOf (entsD w.params ty vy) ny) :: (kx, W.listOf ks.toArray n) :: R))
    (hx : (x, instObj 133 dx) ∈ R) (hdx : (dx, dictOf (entsD w.params tx vx) nx) ∈ R) (hkx : vx.lookup (Str.ofString "kids") = some (.ref kx))
    (hy : (y, instObj 133 dy) ∈ R) (hly : (vy.lookup (Str.ofString "parent")).isSome = true) (hzy : vy.length < 1000) (hzk : ks.length ≤ 10000)
    (ret : ∀ tf s', Same s s' → Fr h₀ L s'.heap m → Led h₀ L s'.heap ((dy, dictOf (entsD w.params tf (putV (Str.ofString "parent") (Value.ref x) vy)) ny) :: (kx, W.listOf (ks ++ [Value.ref y]).toArray (n + 1)) :: R) → Q .none s') :
    wpAny (model PG w) A (call (.ref 111) [.ref x, .ref y]) Q E s := by
  obtain ⟨_, _, _, _, _, _, _, rfl, rfl, c, _⟩ := Γ
  exact add_c c F Λ.N (fun p hp => Λ.ne p (.tail _ hp)) Λ.tail.ne (fun e => Λ.ne _ (.head _) e.symm) hx hdx hkx hy hly hzy hzk fun tf s' e F' N' => ret tf s' e F' ⟨N', Λ.D⟩
theorem take {Q : Value → Shared → Prop} {tk pl : Addr} {ns : List Int} {k lim : Int} {t t1 : Tok} (Γ : Fn w d cs cl A env L h₀) (F : Fr h₀ L s.heap m)
    (Λ : Led h₀ L s.heap ((pl, W.listOf [Value.int k t].toArray 0) :: R)) (K : TakeIn R tk pl ns) (hk0 : 0 ≤ k) (hk1 : k ≤ 400) (hl0 : 0 < lim)
    (ret : ∀ r t' t'' s', 0 ≤ r → r < lim → Same s s' → Fr h₀ L s'.heap m → Led h₀ L s'.heap ((pl, W.listOf [Value.int (k + 1) t'].toArray 0) :: R) → Q (.int r t'') s') :
    wpAny (model PG w) A (call (.ref tk) [.int lim t1]) Q E s := by
  obtain ⟨_, _, _, _, _, _, _, rfl, rfl, c, _⟩ := Γ
  exact take_c c F Λ K hk0 hk1 hl0 ret
/-- take(e), take a local name -/
theorem takeE {Q : Value → Shared → Prop} {tk pl : Addr} {ns : List Int} {lim : Int} {e : PySem.Expr} (Γ : Fn w d cs cl A env L h₀) (F : Fr h₀ L s.heap m) (hv : m x = some (.ref tk)) (N : News h₀ L s.heap R) (K : TakeIn R tk pl ns)
    (he : wpAny (model PG w) A (eval e env) (fun v s₁ => ∃ R₁ k t t1, v = .int lim t1 ∧ Fr h₀ L s₁.heap m ∧ Led h₀ L s₁.heap ((pl, W.listOf [Value.int k t].toArray 0) :: R₁) ∧ TakeIn R₁ tk pl ns ∧ 0 ≤ k ∧ k ≤ 400 ∧ 0 < lim ∧
      ∀ r t' t'' s', 0 ≤ r → r < lim → Same s₁ s' → Fr h₀ L s'.heap m → Led h₀ L s'.heap ((pl, W.listOf [Value.int (k + 1) t'].toArray 0) :: R₁) → Q (.int r t'') s') E s)
    (hx : nok cs .local x = true := by kernel_rfl) (hs : starEach [e] env = (false, eval e env) :: starEach [] env := by rfl) : wpAny (model PG w) A (eval (.Call (.Name x p) [e] [] p2) env) Q E s := by
  refine takeCall (Γ.lcl F hv ⟨rfl, rfl⟩ hx) (K.fn N) (wpAny_mono he (fun v s₁ h => ?_) fun _ _ z => z) hs
  obtain ⟨R₁, k, t, t1, rfl, F₁, Λ₁, K₁, a, b, c, ret⟩ := h
  exact ⟨K₁.fn Λ₁.left, Γ.take F₁ Λ₁ K₁ a b c ret⟩
/-- take(5) and the like -/
theorem takeN {Q : Value → Shared → Prop} {tk pl : Addr} {ns : List Int} {k lim : Int} {t : Tok} {p4 : Pos} {kd : Nat} (Γ : Fn w d cs cl A env L h₀) (F : Fr h₀ L s.heap m) (hv : m x = some (.ref tk))
    (Λ : Led h₀ L s.heap ((pl, W.listOf [Value.int k t].toArray 0) :: R)) (K : TakeIn R tk pl ns) (hk0 : 0 ≤ k) (hk1 : k ≤ 400) (hl0 : 0 < lim)
    (ret : ∀ r t' t'' s', 0 ≤ r → r < lim → Same s s' → Fr h₀ L s'.heap m → Led h₀ L s'.heap ((pl, W.listOf [Value.int (k + 1) t'].toArray 0) :: R) → Q (.int r t'') s')
    (hx : nok cs .local x = true := by kernel_rfl) : wpAny (model PG w) A (eval (.Call (.Name x p) [.Constant (.int lim) kd p4] [] p2) env) Q E s :=
  Γ.takeE F hv Λ.left K (wpAny_Constant_int ⟨R, k, t, _, rfl, F, Λ, K, hk0, hk1, hl0, ret⟩) hx rfl
theorem loops {Q : Flow → Shared → Prop} {body : List Stmt} {n : Nat} {P : Nat → Value → Prop} {ex : List (Addr × Obj)} {prog : Program} (J : Nat → (Str → Option Value) → List (Addr × Obj) → Prop) (j0 : J 0 m l)
    (turn : ∀ i v m₁ m₂ l₁ s₁ I o, i < n → P i v → J i m₁ l₁ → (∀ p ∈ ex, p ∈ l₁) → Same s s₁ → Fr h₀ L s₁.heap m₂ → Put x v m₁ m₂ → Led h₀ L s₁.heap ((I, o) :: l₁) → wpAny (model prog w) A (execs body env) (TurnOk h₀ L I o ex (J (i + 1)) s) E s₁)
    (fin : ∀ s₁ m' l', J n m' l' → (∀ p ∈ ex, p ∈ l') → Same s s₁ → Fr h₀ L s₁.heap m' → Led h₀ L s₁.heap l' → Q .next s₁) : Loops prog w A E h₀ env L x body Q n P ex m l s :=
  ⟨J, j0, fun i v m₁ l₁ s₁ I o hi hv hj hx e F Λ => turn i v m₁ _ l₁ s₁ I o hi hv hj hx e F rfl Λ, fin⟩
/-- for x in <a list of the ledger by its name>: .. -/
theorem forL {Q : Flow → Shared → Prop} {y : Str} {px : Pos} {body : List Stmt} {pos : Pos} {D : Addr} {vs : List Value} {n : Nat} (Γ : Fn w d cs cl A env L h₀) (F : Fr h₀ L s.heap m) (Λ : Led h₀ L s.heap l) (hv : m y = some (.ref D)) (hD : (D, W.listOf vs.toArray n) ∈ l)
    (J : Nat → (Str → Option Value) → List (Addr × Obj) → Prop) (j0 : J 0 m l)
    (turn : ∀ i v m₁ m₂ l₁ s₁ I o, i < vs.length → vs[i]? = some v → J i m₁ l₁ → (D, W.listOf vs.toArray n) ∈ l₁ → Same s s₁ → Fr h₀ L s₁.heap m₂ → Put x v m₁ m₂ → Led h₀ L s₁.heap ((I, o) :: l₁) →
      wpAny (model PG w) A (execs body env) (TurnOk h₀ L I o [(D, W.listOf vs.toArray n)] (J (i + 1)) s) E s₁)
    (fin : ∀ s₁ m' l', J vs.length m' l' → Same s s₁ → Fr h₀ L s₁.heap m' → Led h₀ L s₁.heap l' → Q .next s₁)
    (hE : PassesOwn (model PG w) A env E) (hx : nok cs .local x = true := by kernel_rfl) (hy : nok cs .local y = true := by kernel_rfl) :
    wpAny (model PG w) A (exec (.For (.Name x px) (.Name y p) body [] pos) env) Q E s := by
  have hk := Γ.k
  have Γ' := Γ
  obtain ⟨_, _, _, _, _, _, _, rfl, rfl, c, _⟩ := Γ
  exact for_list (mh := rfl) hk (nok_of hx).1 (Γ'.lcl F hv ⟨D, vs, n, m, l, rfl, hD, F, Λ, loops J j0 (fun i v m₁ m₂ l₁ s₁ I o a b c d => turn i v m₁ m₂ l₁ s₁ I o a b c (d _ (.head _))) fun s₁ m' l' a _ => fin s₁ m' l' a⟩ hy) (hE := hE)
/-- for x in range(e): .. -/
theorem forR {Q : Flow → Shared → Prop} {e : PySem.Expr} {px pr pc pos : Pos} {body : List Stmt} (Γ : Fn w d cs cl A env L h₀) (F : Fr h₀ L s.heap m)
    (h : wpAny (model PG w) A (eval e env) (fun v s₁ => ∃ (n : Nat) (t : Tok) (m : Str → Option Value) (l : List (Addr × Obj)), v = .int n t ∧ n < 1000 ∧ Fr h₀ L s₁.heap m ∧ Led h₀ L s₁.heap l ∧
      Loops PG w A E h₀ env L x body Q n (fun i v => ∃ t, v = .int i t) [] m l s₁) E s)
    (hE : PassesOwn (model PG w) A env E) (hx : nok cs .local x = true := by kernel_rfl) (hr : nok cs .globalImplicit (Str.ofString "range") = true := by kernel_rfl)
    (he : starEach [e] env = (false, eval e env) :: starEach [] env := by rfl) :
    wpAny (model PG w) A (exec (.For (.Name x px) (.Call (.Name (Str.ofString "range") pr) [e] [] pc) body [] pos) env) Q E s := by
  have hk := Γ.k
  have Γ' := Γ
  obtain ⟨_, _, _, _, _, _, _, rfl, rfl, c, _⟩ := Γ
  exact PySem.wpAny_mono (for_range rfl hk (nok_of hx).1 (fun Q' s' e' h' => by subst e'; exact Γ'.blt F range_boot h' (hx := hr)) h he (hE := hE)) (fun _ _ z => z) fun _ _ z => z
end Fn
end Mine
end
section
open PySem PySem.W PySem.Calls PyProof.Rows
namespace Mine
section
variable {w : World} {d : Nat} {cs : Scope} {cl : List (Str × Addr)} {A : Around} {env : Env} {L : Addr} {h₀ : Heap} {m : Str → Option Value} {R l : List (Addr × Obj)} {s : Shared} {Q E : Value → Shared → Prop}
/-- what stands at a turn of the first loop of _law_root -/
def J1 (P : Params) (nm : Str) (pl ln x : Addr) (k0 : Int) (RR : List (Addr × Obj)) (ks : List (Str × Value)) (i : Nat) (m : Str → Option Value) (l : List (Addr × Obj)) : Prop :=
  ∃ nodes f k t n, l = (pl, W.listOf [Value.int k t].toArray 0) :: (ln, W.listOf ((nodes.map Nd.x).map Value.ref).toArray n) :: (blocks P nodes ++ RR) ∧ Grown nm x i nodes f ∧ k0 ≤ k ∧ k ≤ k0 + i + 1 ∧ Has ks m
set_option maxHeartbeats 2000000 in
theorem root_c {tk pl fl : Addr} {ns : List Int} {k : Int} {t tn : Tok} {nm : Str} {fvs : List Value} {fs : List Str} {nf : Nat} (Γ : Fn w d cs cl A env L h₀) (hd' : d < 800) (F : Fr h₀ L s.heap m)
    (Λ : Led h₀ L s.heap ((pl, W.listOf [Value.int k t].toArray 0) :: (fl, W.listOf fvs.toArray nf) :: R)) (K : TakeIn R tk pl ns) (hk0 : 0 ≤ k) (hk1 : k ≤ 380) (hnm : nm.length ≤ 100)
    (hfs : StrsAre fvs fs) (hfl : fvs.length ≤ 1000)
    (ret : ∀ x zs k' t' fvs' nf' Rn s', Same s s' → Fr h₀ L s'.heap m → Led h₀ L s'.heap ((pl, W.listOf [Value.int k' t'].toArray 0) :: (fl, W.listOf fvs'.toArray nf') :: (Rn ++ R)) →
      k ≤ k' → k' ≤ k + 16 → StrsAre fvs' (fs ++ zs) → TreeIn w.params NAMES Rn x nm zs → Q (.ref x) s') :
    wpAny (model PG w) A (call (.ref 233) [.ref tk, .str nm tn, .ref fl]) Q E s := by
  have X := Γ.X
  have hpg : PG = PySem.Challenge.rw_og0080_01.row.prog := rfl
  revert hpg X; k_fill; intro X hpg
  refine' Γ.enter [(Str.ofString "take", .ref tk), (Str.ofString "name", .str nm tn), (Str.ofString "found", .ref fl)] (by omega) F Λ ?b1 ?b2 ?b4 ?b5 ?c1 fun A' env' g L' s₁ m₁ Q' E' e₁ Γ₁ F₁ hm₁ Λ₁ hE fin => ?_
  case b1 => k_is
  case b2 => k_is
  case b4 => rfl
  case b5 => kernel_rfl
  case c1 => kernel_rfl
  have H₁ : Has [(Str.ofString "take", .ref tk), (Str.ofString "name", .str nm tn), (Str.ofString "found", .ref fl)] m₁ := ((Has.nil.cons (hm₁ _ _ rfl)).cons (hm₁ _ _ rfl)).cons (hm₁ _ _ rfl)
  -- root = Item(1, name)
  refine wpAny_execs_cons (wpAny_Assign_Name (Γ₁.callK F₁ (.ref 133) ?_))
  refine spliced_more (wpAny_Constant_int (spliced_more (Γ₁.lcl F₁ H₁.get (spliced_none ⟨⟨_, F₁⟩, ?_⟩))))
  refine Γ₁.item F₁ Λ₁ fun x dx c kk vs tf s₂ e₂ F₂ Λ₂ I₂ => ?_
  refine Γ₁.st F₂ Λ₂ fun s₃ m₃ e₃ F₃ p₃ Λ₃ => ?_
  have H₃ := p₃.has H₁
  -- line = [root]
  refine wpAny_execs_cons (wpAny_Assign_Name (List_ (spliced_more (Γ₁.lcl F₃ H₃.get (spliced_none (newList_l F₃ Λ₃ (by show 1 ≤ 1000; decide) fun ln s₄ e₄ F₄ Λ₄ _ => ?_))))))
  refine Γ₁.st F₄ Λ₄ fun s₅ m₅ e₅ F₅ p₅ Λ₅ => ?_
  have H₅ := p₅.has H₃
  -- for turn in range(take(4))
  have Λ₆ : Led g L' s₅.heap ((pl, W.listOf [Value.int k t].toArray 0) :: ([_, _, _, _, _, _] ++ R)) := Λ₅.pulls [5]
  refine wpAny_execs_cons (Γ₁.forR F₅ (Γ₁.takeN F₅ H₅.get Λ₆ (K.mono fun p h => List.mem_append_right _ h) hk0 (by omega) (by decide) fun r t' t'' s₆ hr0 hr1 e₆ F₆ Λ₆ => ?_) hE)
  refine ⟨r.toNat, t'', _, _, by rw [Int.toNat_of_nonneg hr0], by omega, F₆, Λ₆, ?_⟩
  refine' Fn.loops (J1 w.params nm pl ln x k ((fl, W.listOf fvs.toArray nf) :: R) [(Str.ofString "take", .ref tk), (Str.ofString "name", .str nm tn), (Str.ofString "found", .ref fl), (Str.ofString "root", .ref x), (Str.ofString "line", .ref ln)]) ?j0 ?turn ?fin
  case j0 =>
    refine ⟨[⟨x, dx, c, kk, vs, tf, 0, 0, [], [], [], nm⟩], .nil, k + 1, t', 0, rfl, ⟨rfl, ?_, ⟨⟨_, .head _, rfl, rfl⟩, trivial, trivial⟩, fun b => Iff.rfl, Nat.le_refl _, _, .head _, rfl, rfl⟩, by omega, by omega, H₅.sub (by intro q hq; simp only [List.mem_cons, List.not_mem_nil, or_false] at hq ⊢; rcases hq with h | h | h | h | h <;> simp [h])⟩
    intro nd hnd
    rw [List.mem_singleton.mp hnd]
    exact ⟨I₂, rfl, rfl, Nat.le_refl _⟩
  case turn =>
    clear F Λ F₁ Λ₁ F₂ Λ₂ F₃ Λ₃ F₄ Λ₄ F₅ Λ₅ F₆ Λ₆ e₁ e₂ e₃ e₄ e₅ e₆ H₁ H₃ H₅ p₃ p₅ hm₁
    rintro i v m₀ m₁ l₁ s₁ I o hi ⟨ti, rfl⟩ ⟨nodes, f, k', t₁, n, rfl, G, hk', hk'', Ag⟩ _ e₁ F₁ p₁ Λ₁
    have H₁ := p₁.has Ag
    -- below = Item(5 + turn, name + str(turn))
    refine wpAny_execs_cons (wpAny_Assign_Name (Γ₁.callK F₁ (.ref 133) ?_))
    refine spliced_more (wpAny_BinOp (wpAny_Constant_int (Γ₁.lcl F₁ H₁.get (PyProof.Rows.add_int ?_))))
    refine spliced_more (wpAny_BinOp (Γ₁.lcl F₁ H₁.get (Γ₁.callT1 F₁ str_boot ?_)))
    have hlog : ((i : Int)).natAbs.log2 < 1920 := by rw [Int.natAbs_natCast]; exact Nat.lt_of_le_of_lt (Nat.log2_le_self i) (by omega)
    refine Γ₁.lcl F₁ H₁.get (PySem.P.str_of_int hlog (PyProof.Rows.add_str (fun t₂ tk₂ => spliced_none ⟨⟨_, F₁⟩, ?_⟩) ?_))
    rotate_left
    · rw [sizeLine_eq]; have := PyProof.Rows.int_text_len_1921 hlog; omega
    refine Γ₁.item F₁ Λ₁ fun y dy cy ky vy ty s₂ e₂ F₂ Λ₂ I₂ => ?_
    refine Γ₁.st F₂ Λ₂ fun s₃ m₃ e₃ F₃ p₃ Λ₃ => ?_
    have H₃ := p₃.has H₁
    -- line[take(len(line))].add(below)
    have Λ₄ : Led g L' s₃.heap ((pl, W.listOf [Value.int k' t₁].toArray 0) :: ([_, _, _, _, _, (ln, W.listOf ((nodes.map Nd.x).map Value.ref).toArray n)] ++ (blocks w.params nodes ++ ((fl, W.listOf fvs.toArray nf) :: R)))) := Λ₃.pulls [5]
    have hK : ∀ l : List (Addr × Obj), TakeIn (l ++ (blocks w.params nodes ++ ((fl, W.listOf fvs.toArray nf) :: R))) tk pl ns := fun l => K.mono fun p h => List.mem_append_right _ (List.mem_append_right _ (.tail _ h))
    have hlen : nodes.length = i + 1 := G.1
    have hml : ((nodes.map Nd.x).map Value.ref).length = nodes.length := (List.length_map _).trans (List.length_map _)
    refine wpAny_execs_cons (wpAny_Expr_any (methodCall_KW (Subscript_ (Γ₁.lcl F₃ H₃.get ?_)) rfl) Γ₁.inter rfl)
    refine Γ₁.takeE (lim := (((nodes.map Nd.x).map Value.ref).length : Nat)) F₃ H₃.get Λ₄.left (hK _) (Γ₁.callB1 F₃ len_boot (Γ₁.lcl F₃ H₃.get (len_l Λ₄.N (.tail _ (.tail _ (.tail _ (.tail _ (.tail _ (.tail _ (.head _))))))) (by omega) fun t₃ tk₃ => ?_)))
    refine ⟨_, _, _, _, rfl, F₃, Λ₄, hK _, by omega, by omega, by omega, fun q t₅ t₆ s₅ hq0 hq1 e₅ F₅ Λ₅ => ?_⟩
    obtain ⟨a', nd, b', rfl, hq⟩ := split_at (nodes := nodes) (r := q.toNat) (by omega)
    refine sub_at Λ₅.N (.tail _ (.tail _ (.tail _ (.tail _ (.tail _ (.tail _ (.head _))))))) hq0 (by omega) hq ?_
    have Λ₆ := Λ₅.perm (l' := (dy, dictOf (entsD w.params ty vy) 19) :: nd.kE :: (pl, W.listOf [Value.int (k' + 1) t₅].toArray 0) :: (ky, W.listOf #[] 0) :: (cy, W.listOf #[] 0) :: (y, instObj 133 dy) :: (I, o) :: (ln, W.listOf (((a' ++ nd :: b').map Nd.x).map Value.ref).toArray n) :: nd.cE :: nd.iE :: nd.dE w.params :: (blocks w.params a' ++ (blocks w.params b' ++ ((fl, W.listOf fvs.toArray nf) :: R))))
      ((((perm_blk w.params a' b' nd _).append_left [_, _, _, _, _, _, _]).trans (pulls_perm [7, 5] _)))
    obtain ⟨⟨_, _, hkx, hpa, hadd, hln⟩, hcs, hws, hkl⟩ := G.2.1 nd (List.mem_append_right _ (.head _))
    have hI2 : ItemRec vy (nm ++ Str.ofString (toString (i : Int))) cy ky := I₂
    refine method_rec (n := 19) (tf := nd.tf) (C := 133) (dx := nd.dx) (f := 111) F₅ Γ₁.X Λ₆.N ?m1 ?m2 (by kernel_rfl) (by kernel_rfl) (by kernel_rfl) hadd ?_
    case m1 => exact .tail _ (.tail _ (.tail _ (.tail _ (.tail _ (.tail _ (.tail _ (.tail _ (.tail _ (.head _)))))))))
    case m2 => exact .tail _ (.tail _ (.tail _ (.tail _ (.tail _ (.tail _ (.tail _ (.tail _ (.tail _ (.tail _ (.head _))))))))))
    refine callWith_K Γ₁.X (by kernel_rfl) (spliced_more (Γ₁.lcl F₅ H₃.get (spliced_none ⟨Γ₁.X.keeps F₅.keep, ?_⟩)))
    have hks : (nd.kids.map Value.ref).length = nd.kids.length := List.length_map _
    refine Γ₁.add (dx := nd.dx) (nx := 19) (tx := nd.tf) (ks := nd.kids.map Value.ref) (n := nd.nk) F₅ Λ₆ ?m1 ?m2 hkx ?m3 hI2.2.2.2.1 (by rw [hI2.2.2.2.2.2]; decide) (by omega) fun ty₂ s₆ e₆ F₆ Λ₇ => ?_
    case m1 => exact .tail _ (.tail _ (.tail _ (.tail _ (.tail _ (.tail _ (.tail _ (.head _)))))))
    case m2 => exact .tail _ (.tail _ (.tail _ (.tail _ (.tail _ (.tail _ (.tail _ (.tail _ (.head _))))))))
    case m3 => exact .tail _ (.tail _ (.tail _ (.head _)))
    -- line.append(below)
    have Λ₈ : Led g L' s₆.heap ((ln, _) :: (dy, dictOf (entsD w.params ty₂ _) 19) :: (nd.k, _) :: _) := Λ₇.pulls [7]
    refine wpAny_execs_cons (stmt_append (Γ₁.lcl F₆ H₃.get ⟨ln, _, _, rfl, Λ₈.get (.head _), ?_⟩) (hi := Γ₁.inter))
    refine Γ₁.lcl F₆ H₃.get (app_l F₆ Λ₈ (by omega) fun s₇ e₇ F₇ Λ₉ => ?_)
    let nd' : Nd := { nd with kids := nd.kids ++ [y], nk := nd.nk + 1 }
    let ny : Nd := ⟨y, dy, cy, ky, putV (Str.ofString "parent") (.ref nd.x) vy, ty₂, 0, 0, [], [], [], nm ++ Str.ofString (toString (i : Int))⟩
    have hun' : ∀ q ∈ a' ++ b', q.x ≠ nd.x := fun q hq => (Λ₆.pulls [9]).ne q.iE (List.mem_append_right [_, _, _, _, _, _, _, _, _, _] (by
      rcases List.mem_append.mp hq with hq | hq
      · exact List.mem_append_left _ (blk_mem hq).2.2.1
      · exact List.mem_append_right _ (List.mem_append_left _ (blk_mem hq).2.2.1)))
    obtain ⟨f', G'⟩ := G.next (nd' := nd') (ny := ny) hun' rfl rfl rfl rfl rfl rfl rfl rfl
      ⟨by rw [lookup_putV_ne (by decide +kernel)]; exact hI2.1, by rw [lookup_putV_ne (by decide +kernel)]; exact hI2.2.1, by rw [lookup_putV_ne (by decide +kernel)]; exact hI2.2.2.1, by rw [lookup_putV_self]; rfl, by rw [lookup_putV_ne (by decide +kernel)]; exact hI2.2.2.2.2.1, by rw [length_putV hI2.2.2.2.1]; exact hI2.2.2.2.2.2⟩ rfl rfl rfl
    refine wpAny_execs_nil ⟨rfl, _, (pl, W.listOf [Value.int (k' + 1) t₅].toArray 0) :: (ln, W.listOf ((((a' ++ nd' :: b') ++ [ny]).map Nd.x).map Value.ref).toArray (n + 1)) :: (blocks w.params ((a' ++ nd' :: b') ++ [ny]) ++ ((fl, W.listOf fvs.toArray nf) :: R)), ?_, F₇, ?_, (fun _ h => nomatch h), _, f', _, _, _, rfl, G', by omega, by omega, H₃.sub fun _ h => .tail _ (.tail _ h)⟩
    · exact e₁.trans (Same.trans e₂ (e₃.trans (Same.trans e₅ (e₆.trans e₇))))
    · have e1 : (((a' ++ nd :: b').map Nd.x).map Value.ref) ++ [Value.ref y] = ((((a' ++ nd' :: b') ++ [ny]).map Nd.x).map Value.ref) := by simp only [List.map_append]; rfl
      have e2 : nd.kids.map Value.ref ++ [Value.ref y] = (nd.kids ++ [y]).map Value.ref := by rw [List.map_append]; rfl
      rw [e1, e2] at Λ₉
      exact Λ₉.perm ((pulls_perm [1, 6, 6, 6, 10, 10, 10, 8, 8, 9, 10] _).trans ((perm_blk2 w.params a' b' nd' ny _).append_left [_, _, _]))
  case fin =>
    clear F Λ F₁ Λ₁ F₂ Λ₂ F₃ Λ₃ F₄ Λ₄ F₅ Λ₅ F₆ Λ₆ I₂ t' H₁ H₃ H₅ p₃ p₅ hm₁
    rintro s₁' m' l' ⟨nodes, f, k', t₁, n, rfl, G, hk', hk'', Ag⟩ _ e₁' F₁ Λ₁
    obtain ⟨g1, g2, g3, g4, g5, g6⟩ := G
    have hr3 : r.toNat ≤ 3 := by omega
    have hpre : (Fo.cons x f .nil).pre.length ≤ 8 := Nat.le_trans g5 (Nat.le_trans (Nat.pow_le_pow_right (by decide) hr3) (by decide))
    have Λ₂ : Led g L' s₁'.heap ((pl, W.listOf [Value.int k' t₁].toArray 0) :: (fl, W.listOf fvs.toArray nf) :: (ln, W.listOf ((nodes.map Nd.x).map Value.ref).toArray n) :: (blocks w.params nodes ++ ([] ++ R))) :=
      Λ₁.perm (((List.perm_middle (l₁ := _ :: _ :: blocks w.params nodes)).trans (pulls_perm [1] _)))
    have hxl : (nodes.map Nd.x).length = r.toNat + 1 := by rw [List.length_map, g1]
    -- for one in line
    refine wpAny_execs_cons (Γ₁.forL F₁ Λ₂ Ag.get (.tail _ (.tail _ (.head _))) (fun j => J2 w.params pl fl ln x (nodes.map Nd.x) n f nm fs k R (k + 4 + 3 * j) (2 * j) [(Str.ofString "take", .ref tk), (Str.ofString "name", .str nm tn), (Str.ofString "found", .ref fl), (Str.ofString "root", .ref x), (Str.ofString "line", .ref ln)]) ?j0 ?turn ?fin hE)
    case j0 =>
      refine ⟨nodes, [], [], k', t₁, fvs, nf, rfl, rfl, fun nd hnd => ?_, g3, g6, by rw [List.append_nil]; exact hfs, Nat.zero_le _, fun z => ⟨(fun h => nomatch h), fun ⟨nd, hnd, h⟩ => ?_⟩, (fun _ h => nomatch h), hk', by omega, Ag⟩
      · obtain ⟨a1, a2, a3, _⟩ := g2 nd hnd
        rw [a2, a3]
        exact ⟨a1, trivial, Nat.zero_le _⟩
      · rw [(g2 nd hnd).2.2.1] at h; cases h
    case turn =>
      clear F₁ Λ₁ Λ₂ g2 g3 g4 g6 Ag
      rintro j v m₁ m₂ l₁ s₂ I o hj hv ⟨nodes₂, Rn, zs, k₂, t₂, fvs₂, nf₂, rfl, a1, a2, a3, a4, a5, a6, a7, a8, a9, a10, H⟩ _ e₉ F₂ p₂ Λ₂
      rw [List.length_map, hxl] at hj
      have hv' : ∃ y ∈ nodes.map Nd.x, v = .ref y := by
        rw [List.getElem?_map] at hv
        cases hq : (nodes.map Nd.x)[j]? with
        | none => rw [hq] at hv; cases hv
        | some y => rw [hq] at hv; exact ⟨y, List.mem_of_getElem? hq, (Option.some.inj hv).symm⟩
      obtain ⟨y, hy, rfl⟩ := hv'
      have H₂ := p₂.has H
      -- for turn in range(take(3))
      have Λ₃ : Led g L' s₂.heap ((pl, W.listOf [Value.int k₂ t₂].toArray 0) :: ([(I, o), (fl, W.listOf fvs₂.toArray nf₂), (ln, W.listOf ((nodes.map Nd.x).map Value.ref).toArray n)] ++ (blocks w.params nodes₂ ++ (Rn ++ R)))) := Λ₂.pulls [1]
      refine wpAny_execs_cons (Γ₁.forR F₂ (Γ₁.takeN F₂ H₂.get Λ₃ (K.mono fun p h => List.mem_append_right _ (List.mem_append_right _ (List.mem_append_right _ h))) (by omega) (by omega) (by decide) fun r₂ t₃ t₄ s₃ hr0' hr1' e₃ F₃ Λ₄ => ?_) hE)
      have Λ₅ : Led g L' s₃.heap ((pl, W.listOf [Value.int (k₂ + 1) t₃].toArray 0) :: (fl, W.listOf fvs₂.toArray nf₂) :: (ln, W.listOf ((nodes.map Nd.x).map Value.ref).toArray n) :: (blocks w.params nodes₂ ++ (Rn ++ (I, o) :: R))) :=
        Λ₄.perm ((pulls_perm [1, 3, 3, 3] _).trans ((perm_in (I, o) (blocks w.params nodes₂) Rn R).append_left [_, _, _]))
      refine ⟨r₂.toNat, t₄, _, _, by rw [Int.toNat_of_nonneg hr0'], by omega, F₃, Λ₅, ?_⟩
      refine Fn.loops (fun i => J2 w.params pl fl ln x (nodes.map Nd.x) n f nm fs k ((I, o) :: R) (k + 4 + 3 * j + 1 + i) (2 * j + i) [(Str.ofString "one", .ref y), (Str.ofString "take", .ref tk), (Str.ofString "name", .str nm tn), (Str.ofString "found", .ref fl), (Str.ofString "root", .ref x), (Str.ofString "line", .ref ln)]) ?k0 ?kt ?kf
      case k0 => exact ⟨nodes₂, Rn, zs, _, _, _, _, rfl, a1, a2, a3, a4, a5, a6, a7, a8, by omega, by omega, H₂⟩
      case kt =>
        clear F₂ Λ₂ Λ₃ Λ₄ Λ₅ F₃ a2 a3 a4 a5 a6 a7 a8 a1 H H₂ hv p₂
        obtain ⟨nms, hnms, hnmss⟩ := names_K w.params
        rintro i v m₃ m₄ l₂ s₄ I' o' hi ⟨ti, rfl⟩ ⟨nodes₃, Rn', zs', k₃, t₅, fvs₃, nf₃, rfl, b1, b2, b3, b4, b5, b6, b7, b8, b9, b10, H₀⟩ _ e₄ F₄ p₄ Λ₆
        have H₃ := p₄.has H₀
        -- word = _law_NAMES[take(5)]
        have Λ₇ : Led g L' s₄.heap ((pl, W.listOf [Value.int k₃ t₅].toArray 0) :: ([(I', o'), (fl, W.listOf fvs₃.toArray nf₃), (ln, W.listOf ((nodes.map Nd.x).map Value.ref).toArray n)] ++ (blocks w.params nodes₃ ++ (Rn' ++ (I, o) :: R)))) := Λ₆.pulls [1]
        refine wpAny_execs_cons (wpAny_Assign_Name (Subscript_ (Γ₁.glb F₄ (.ref 219) ?_)))
        refine Γ₁.takeN F₄ H₃.get Λ₇ (K.mono fun p h => List.mem_append_right _ (List.mem_append_right _ (List.mem_append_right _ (.tail _ h)))) (by omega) (by omega) (by decide) fun r₃ t₆ t₇ s₅ hq0 hq1 e₅ F₅ Λ₈ => ?_
        refine strTup_sub F₅ Γ₁.X hnms hnmss hq0 hq1 (by decide) fun z tz hz _ => ?_
        refine Γ₁.st F₅ Λ₈ fun s₆ m₆ e₆ F₆ p₆ Λ₉ => ?_
        have H₄ := p₆.has H₃
        -- one.conditions.append(Named(..))
        rw [← b1] at hy
        obtain ⟨nd, hnd, rfl⟩ := List.mem_map.mp hy
        obtain ⟨c1, c2, c3⟩ := b2 nd hnd
        obtain ⟨a', b', rfl⟩ := List.append_of_mem hnd
        have m1 := blk_mem (P := w.params) hnd
        refine wpAny_execs_cons (stmt_append (Γ₁.attr (x' := nd.x) (C := 133) (dx := nd.dx) (tf := nd.tf) (n := 19) F₆ Λ₉.N H₄.get ?x1 ?x2 c1.2.1 ⟨nd.c, (nd.cs.map Value.ref).toArray, nd.nc, rfl, Λ₉.get ?x3, ?_⟩) (hi := Γ₁.inter))
        case x1 => exact .tail _ (List.mem_append_right _ (List.mem_append_left _ m1.2.2.1))
        case x2 => exact .tail _ (List.mem_append_right _ (List.mem_append_left _ m1.2.2.2))
        case x3 => exact .tail _ (List.mem_append_right _ (List.mem_append_left _ m1.2.1))
        refine Γ₁.callK F₆ (.ref 86) ?_
        refine spliced_more (Γ₁.lcl F₆ H₄.get (spliced_more (Tuple_ (spliced_more (Tuple_ (spliced_more (wpAny_Constant_str (spliced_more (Tuple_ (spliced_more (Γ₁.lcl F₆ H₄.get (spliced_more (wpAny_Constant_int (spliced_none ?_))))))))))))))
        refine newTup_l F₆ Λ₉ (by show 2 ≤ 1000; decide) fun q1 s₇ e₇ F₇ Λ₁₀ _ => ?_
        refine spliced_none (newTup_l F₇ Λ₁₀ (by show 2 ≤ 1000; decide) fun q2 s₈ e₈ F₈ Λ₁₁ _ => ?_)
        refine spliced_more (wpAny_Constant_none (spliced_none (newTup_l F₈ Λ₁₁ (by show 2 ≤ 1000; decide) fun q3 s₉ e₉ F₉ Λ₁₂ _ => spliced_none ⟨⟨_, F₉⟩, ?_⟩)))
        refine Γ₁.named F₉ Λ₁₂ (.head _) fun x' dx' vs' tf' s₁₀ e₁₀ F₁₀ Λ₁₃ hN => ?_
        have Λ₁₄ : Led g L' s₁₀.heap (nd.cE :: (x', instObj 86 dx') :: (dx', dictOf (entsD w.params tf' vs') 2) :: (pl, W.listOf [Value.int (k₃ + 1) t₆].toArray 0) :: (I', o') :: (fl, W.listOf fvs₃.toArray nf₃) :: (ln, W.listOf ((nodes.map Nd.x).map Value.ref).toArray n) :: nd.kE :: nd.iE :: nd.dE w.params :: (blocks w.params a' ++ (blocks w.params b' ++ (Rn' ++ (I, o) :: R)))) :=
          (Λ₁₃.pulls [4, 4, 4]).tail.tail.tail.perm (((perm_blk w.params a' b' nd (Rn' ++ (I, o) :: R)).append_left [_, _, _, _, _, _]).trans (pulls_perm [7] _))
        have hcl : (nd.cs.map Value.ref).length = nd.cs.length := List.length_map _
        refine app_l F₁₀ Λ₁₄ (by omega) fun s₁₁ e₁₁ F₁₁ Λ₁₅ => ?_
        -- found.append(word)
        have Λ₁₆ : Led g L' s₁₁.heap ((fl, W.listOf fvs₃.toArray nf₃) :: (nd.c, W.listOf (nd.cs.map Value.ref ++ [Value.ref x']).toArray (nd.nc + 1)) :: _) := Λ₁₅.pulls [5]
        refine wpAny_execs_cons (stmt_append (Γ₁.lcl F₁₁ H₄.get ⟨fl, _, _, rfl, Λ₁₆.get (.head _), ?_⟩) (hi := Γ₁.inter))
        have hfl3 : fvs₃.length = fs.length + zs'.length := by rw [b5.length, List.length_append]
        have hfl0 : fvs.length = fs.length := hfs.length
        refine Γ₁.lcl F₁₁ H₄.get (app_l F₁₁ Λ₁₆ (by omega) fun s₁₂ e₁₂ F₁₂ Λ₁₇ => ?_)
        let nd' : Nd := { nd with cs := nd.cs ++ [x'], ws := nd.ws ++ [z], nc := nd.nc + 1 }
        have e1 : nd.cs.map Value.ref ++ [Value.ref x'] = (nd.cs ++ [x']).map Value.ref := by rw [List.map_append]; rfl
        rw [e1] at Λ₁₇
        refine wpAny_execs_nil ⟨rfl, _, (pl, W.listOf [Value.int (k₃ + 1) t₆].toArray 0) :: (fl, W.listOf (fvs₃ ++ [Value.str z tz]).toArray (nf₃ + 1)) :: (ln, W.listOf ((nodes.map Nd.x).map Value.ref).toArray n) :: (blocks w.params (a' ++ nd' :: b') ++ (([(x', instObj 86 dx'), (dx', dictOf (entsD w.params tf' vs') 2)] ++ Rn') ++ (I, o) :: R)), ?y1, F₁₂, ?y2, (fun _ h => nomatch h), a' ++ nd' :: b', _, zs' ++ [z], _, _, _, _, rfl, ?y3, ?y4, ?y5, ?y6, ?y7, ?y8, ?y9, ?y10, by omega, by omega, H₄.sub fun _ h => .tail _ (.tail _ h)⟩
        case y1 => exact e₄.trans (Same.trans e₅ (e₆.trans (Same.trans e₇ (e₈.trans (e₉.trans (e₁₀.trans (e₁₁.trans e₁₂)))))))
        case y2 =>
          refine Λ₁₇.perm (l' := (I', o') :: (pl, _) :: (fl, _) :: (ln, _) :: (blocks w.params (a' ++ nd' :: b') ++ (([_, _] ++ Rn') ++ (I, o) :: R))) ((pulls_perm [9, 9, 3, 9, 6, 6, 9, 7, 8, 9] _).trans (.trans ?_ ((perm_out [_, _] (blocks w.params (a' ++ nd' :: b')) Rn' ((I, o) :: R)).append_left [_, _, _, _])))
          exact (perm_blk w.params a' b' nd' (Rn' ++ (I, o) :: R)).symm.append_left [_, _, _, _, _, _]
        case y3 => rw [← b1, List.map_append, List.map_append]; rfl
        case y4 =>
          have old : ∀ q ∈ a' ++ nd :: b', ItemRec q.vs q.nm q.c q.k ∧ NamedsIn w.params ([(x', instObj 86 dx'), (dx', dictOf (entsD w.params tf' vs') 2)] ++ Rn') q.cs q.ws ∧ q.cs.length ≤ 2 * j + (i + 1) := fun q hq =>
            ⟨(b2 q hq).1, (b2 q hq).2.1.mono fun p hp => List.mem_append_right _ hp, Nat.le_trans (b2 q hq).2.2 (by omega)⟩
          intro q hq
          rcases List.mem_append.mp hq with hq | hq
          · exact old q (List.mem_append_left _ hq)
          · rcases List.mem_cons.mp hq with rfl | hq
            · exact ⟨c1, ((c2.mono fun p hp => List.mem_append_right [(x', instObj 86 dx'), (dx', dictOf (entsD w.params tf' vs') 2)] hp)).snoc ⟨dx', vs', tf', .head _, .tail _ (.head _), hN⟩, by show (nd.cs ++ [x']).length ≤ _; rw [List.length_append]; exact Nat.succ_le_succ c3⟩
            · exact old q (List.mem_append_right _ (.tail _ hq))
        case y5 =>
          refine b3.sub fun q hq => ?_
          rcases List.mem_append.mp hq with hq | hq
          · exact ⟨q, List.mem_append_left _ hq, rfl, rfl⟩
          · rcases List.mem_cons.mp hq with rfl | hq
            · exact ⟨nd', List.mem_append_right _ (.head _), rfl, rfl⟩
            · exact ⟨q, List.mem_append_right _ (.tail _ hq), rfl, rfl⟩
        case y6 =>
          obtain ⟨q, hq, d1, d2⟩ := b4
          rcases List.mem_append.mp hq with hq | hq
          · exact ⟨q, List.mem_append_left _ hq, d1, d2⟩
          · rcases List.mem_cons.mp hq with rfl | hq
            · exact ⟨nd', List.mem_append_right _ (.head _), d1, d2⟩
            · exact ⟨q, List.mem_append_right _ (.tail _ hq), d1, d2⟩
        case y7 => rw [← List.append_assoc]; exact strs_snoc b5
        case y8 => rw [List.length_append]; exact Nat.succ_le_succ b6
        case y9 =>
          intro q
          rw [List.mem_append, b7, List.mem_singleton]
          constructor
          · rintro (⟨u, hu, h⟩ | rfl)
            · rcases List.mem_append.mp hu with hu | hu
              · exact ⟨u, List.mem_append_left _ hu, h⟩
              · rcases List.mem_cons.mp hu with rfl | hu
                · exact ⟨nd', List.mem_append_right _ (.head _), List.mem_append_left _ h⟩
                · exact ⟨u, List.mem_append_right _ (.tail _ hu), h⟩
            · exact ⟨nd', List.mem_append_right _ (.head _), List.mem_append_right _ (.head _)⟩
          · rintro ⟨u, hu, h⟩
            rcases List.mem_append.mp hu with hu | hu
            · exact .inl ⟨u, List.mem_append_left _ hu, h⟩
            · rcases List.mem_cons.mp hu with rfl | hu
              · rcases List.mem_append.mp h with h | h
                · exact .inl ⟨nd, hnd, h⟩
                · exact .inr (List.mem_singleton.mp h)
              · exact .inl ⟨u, List.mem_append_right _ (.tail _ hu), h⟩
        case y10 =>
          intro q hq
          rcases List.mem_append.mp hq with hq | hq
          · exact b8 q hq
          · rw [List.mem_singleton.mp hq]; exact hz
      case kf =>
        rintro s₄ m₂ l₂ ⟨nodes₃, Rn', zs', k₃, t₅, fvs₃, nf₃, rfl, b1, b2, b3, b4, b5, b6, b7, b8, b9, b10, H₃⟩ _ e₄ F₄ Λ₆
        refine wpAny_execs_nil ⟨rfl, _, _, e₉.trans (Same.trans e₃ e₄), F₄, Λ₆.perm (l' := (I, o) :: (pl, _) :: (fl, _) :: (ln, _) :: (blocks w.params nodes₃ ++ (Rn' ++ R))) (((perm_in (I, o) (blocks w.params nodes₃) Rn' R).symm.append_left [_, _, _]).trans (pulls_perm [3] _)), ?_, nodes₃, Rn', zs', _, _, _, _, rfl, b1, fun nd h => ?_, b3, b4, b5, by omega, b7, b8, b9, by omega, fun q hq => H₃ q (.tail _ hq)⟩
        · intro p hp; rw [List.mem_singleton.mp hp]; exact .tail _ (.tail _ (.head _))
        · exact ⟨(b2 nd h).1, (b2 nd h).2.1, Nat.le_trans (b2 nd h).2.2 (by omega)⟩
    case fin =>
      rintro s₂ m₁ l₁ ⟨nodes₂, Rn, zs, k₂, t₂, fvs₂, nf₂, rfl, a1, a2, a3, a4, a5, a6, a7, a8, a9, a10, H⟩ e₉ F₂ Λ₂
      have hnd : (nodes₂.map Nd.x).Nodup := ((blk_sub w.params nodes₂).trans (((List.sublist_append_left _ _).cons _ |>.cons _ |>.cons _).map _)).nodup Λ₂.D
      have hw : ∀ nd ∈ nodes₂, wtOf nodes₂ nd.x = nd.ws := fun nd h => wt_node hnd h
      refine wpAny_execs_cons (wpAny_Return_some (Γ₁.lcl F₂ H.get ?_))
      refine fin _ (.ref x) _ _ _ (.inl rfl) F₂ Λ₂ fun F₃ Λ₃ => ?_
      refine ret x zs k₂ t₂ fvs₂ nf₂ ((ln, W.listOf ((nodes.map Nd.x).map Value.ref).toArray n) :: (blocks w.params nodes₂ ++ Rn)) _ ?_ F₃ (by rw [List.cons_append, List.append_assoc]; exact Λ₃) a9 ?_ a5 ⟨f, wtOf nodes₂, ?_, hpre, ?_, ?_, ?_, a8⟩
      · exact e₁.trans (Same.trans e₂ (Same.trans e₃ (e₄.trans (Same.trans e₅ (e₆.trans (e₁'.trans e₉))))))
      · rw [List.length_map, hxl] at a10; omega
      · exact foIn_of (fun nd h => ⟨(a2 nd h).1, (a2 nd h).2.1⟩) (fun p h => .tail _ (List.mem_append_left _ h)) (fun p h => .tail _ (List.mem_append_right _ h)) hw a3
      · rw [List.length_map, hxl] at a6; omega
      · obtain ⟨nd, hm, rfl, rfl⟩ := a4
        obtain ⟨m1, m2, m3, m4⟩ := blk_mem (P := w.params) hm
        exact ⟨nd.dx, nd.vs, nd.tf, nd.c, nd.k, .tail _ (List.mem_append_left _ m3), .tail _ (List.mem_append_left _ m4), (a2 nd hm).1⟩
      · intro z
        rw [a7]
        constructor
        · rintro ⟨nd, hm, hz⟩
          exact ⟨nd.x, (g4 _).mpr (a1 ▸ List.mem_map.mpr ⟨nd, hm, rfl⟩), by rw [hw nd hm]; exact hz⟩
        · rintro ⟨b, hb, hz⟩
          have hb := (g4 _).mp hb
          rw [← a1] at hb
          obtain ⟨nd, hm, rfl⟩ := List.mem_map.mp hb
          exact ⟨nd, hm, by rw [← hw nd hm]; exact hz⟩
end
end Mine
end
section
open PySem PySem.W PySem.Calls PyProof.Rows
namespace Mine
section
variable {w : World} {d : Nat} {cs : Scope} {cl : List (Str × Addr)} {A : Around} {env : Env} {L : Addr} {h₀ : Heap} {m : Str → Option Value} {R l : List (Addr × Obj)} {s : Shared} {E : Value → Shared → Prop}
theorem natlog {i : Nat} (h : i < 1000) : ((i : Int)).natAbs.log2 < 1920 := by rw [Int.natAbs_natCast]; exact Nat.lt_of_le_of_lt (Nat.log2_le_self i) (by omega)
/-- x + str(i) fits a line -/
theorem fits_num {i : Nat} {z : Str} (h : i < 1000) (hz : z.length ≤ 50) : z.length + (Str.ofString (toString (i : Int))).length ≤ sizeLine := by
  rw [sizeLine_eq]; have := PyProof.Rows.int_text_len_1921 (natlog h); omega
def numStr (i : Nat) : Str := Str.ofString (toString (i : Int))
theorem small_num {i : Nat} (h : i < 10) : (numStr i).length = 1 := by
  rcases i with _ | _ | _ | _ | _ | _ | _ | _ | _ | _ | i
  all_goals first | decide +kernel | omega
/-- _law_root(take, 'W' + str(turn), found) -/
theorem data_arg {Q : Value → Shared → Prop} {pre : Str} {p4 p5 p6 p7 p8 p9 p10 p11 p12 : Pos} {kd : Nat} {tk pl fl : Addr} {ns : List Int} {k : Int} {t ti : Tok} {fvs : List Value} {fs : List Str} {nf i : Nat}
    (Γ : Fn w d cs cl A env L h₀) (hd' : d < 800) (F : Fr h₀ L s.heap m) (Λ : Led h₀ L s.heap ((pl, W.listOf [Value.int k t].toArray 0) :: (fl, W.listOf fvs.toArray nf) :: R)) (K : TakeIn R tk pl ns) (hk0 : 0 ≤ k) (hk1 : k ≤ 380) (hpre : pre.length ≤ 50)
    (hfs : StrsAre fvs fs) (hfl : fvs.length ≤ 1000) (hi : i < 10)
    (h1 : m (Str.ofString "turn") = some (.int i ti)) (h2 : m (Str.ofString "take") = some (.ref tk)) (h3 : m (Str.ofString "found") = some (.ref fl))
    (hn : (nok cs .local (Str.ofString "turn") && nok cs .local (Str.ofString "take") && nok cs .local (Str.ofString "found") && nok cs .globalImplicit (Str.ofString "_law_root") && nok cs .globalImplicit (Str.ofString "str")) = true)
    (ret : ∀ y zs k' t' fvs' nf' Rn s', Same s s' → Fr h₀ L s'.heap m → Led h₀ L s'.heap ((pl, W.listOf [Value.int k' t'].toArray 0) :: (fl, W.listOf fvs'.toArray nf') :: (Rn ++ R)) →
      k ≤ k' → k' ≤ k + 16 → StrsAre fvs' (fs ++ zs) → TreeIn w.params NAMES Rn y (pre ++ numStr i) zs → Q (.ref y) s') :
    wpAny (model PG w) A (eval (.Call (.Name (Str.ofString "_law_root") p4) [.Name (Str.ofString "take") p5, .BinOp (.Constant (.str pre) kd p6) .Add (.Call (.Name (Str.ofString "str") p7) [.Name (Str.ofString "turn") p8] [] p9) p10, .Name (Str.ofString "found") p11] [] p12) env) Q E s := by
  simp only [Bool.and_eq_true] at hn
  obtain ⟨⟨⟨⟨n1, n2⟩, n3⟩, n5⟩, n6⟩ := hn
  refine Γ.callK F (.ref 233) ?_ (hx := n5)
  refine spliced_more (Γ.lcl F h2 (spliced_more (wpAny_BinOp (wpAny_Constant_str (Γ.callT1 F str_boot (Γ.lcl F h1 (PySem.P.str_of_int (natlog (by omega)) (PyProof.Rows.add_str (fun t₂ tk₂ => ?_) (fits_num (by omega) hpre))) n1) (hx := n6))))) n2)
  refine spliced_more (Γ.lcl F h3 (spliced_none ⟨⟨_, F⟩, ?_⟩) n3)
  refine root_c Γ hd' F Λ K hk0 hk1 (by have h := small_num hi; unfold numStr at h; rw [PySem.Str.length_append]; omega) hfs hfl fun y zs k' t' fvs' nf' Rn s' e' F' Λ' hk' hk'' hfs' hT => ?_
  exact ret y zs k' t' fvs' nf' Rn s' e' F' Λ' hk' hk'' hfs' hT
/-- the trees of a list of roots -/
def TreesIn (P : Params) (nms : List Str) (R : List (Addr × Obj)) (ts : List (Addr × Str × List Str)) : Prop := ∀ t ∈ ts, TreeIn P nms R t.1 t.2.1 t.2.2
theorem TreesIn.mono {P : Params} {nms : List Str} {R R' : List (Addr × Obj)} {ts : List (Addr × Str × List Str)} (h : ∀ p ∈ R, p ∈ R') (t : TreesIn P nms R ts) : TreesIn P nms R' ts := fun q hq => (t q hq).mono h
/-- what stands at a turn of a loop of _law_data -/
def JD (P : Params) (pl fl wl : Addr) (k0 : Int) (kt : Nat) (fs : List Str) (RR : List (Addr × Obj)) (ks : List (Str × Value)) (i : Nat) (m : Str → Option Value) (l : List (Addr × Obj)) : Prop :=
  ∃ ts Rn k t fvs nf n, l = (pl, W.listOf [Value.int k t].toArray 0) :: (fl, W.listOf fvs.toArray nf) :: (wl, W.listOf (ts.map fun t => Value.ref t.1).toArray n) :: (Rn ++ RR) ∧ TreesIn P NAMES Rn ts ∧ ts.length = i ∧
    StrsAre fvs (fs ++ ts.flatMap fun t => t.2.2) ∧ k0 ≤ k ∧ k ≤ k0 + 16 * i ∧ fvs.length ≤ kt + 8 * i ∧ Has ks m
set_option maxHeartbeats 2000000 in
theorem data_c' {Q : Value → Shared → Prop} {tk pl fl : Addr} {ns : List Int} {k : Int} {t : Tok} {fvs : List Value} {fs : List Str} {nf : Nat}
    (Γ : Fn w d cs cl A env L h₀) (hd' : d < 790) (F : Fr h₀ L s.heap m) (Λ : Led h₀ L s.heap ((pl, W.listOf [Value.int k t].toArray 0) :: (fl, W.listOf fvs.toArray nf) :: R)) (K : TakeIn R tk pl ns) (hk0 : 0 ≤ k) (hk1 : k ≤ 200)
    (hfs : StrsAre fvs fs) (hfl : fvs.length ≤ 100)
    (ret : ∀ x dx wl ll fd sl vs tf ts1 ts2 n1 n2 k' t' fvs' nf' Rn s', Same s s' → Fr h₀ L s'.heap m →
      Led h₀ L s'.heap ((pl, W.listOf [Value.int k' t'].toArray 0) :: (fl, W.listOf fvs'.toArray nf') :: (fd, dictOf [] 0) :: (sl, W.listOf #[] 0) :: (ll, W.listOf (ts2.map fun (t : Addr × Str × List Str) => Value.ref t.1).toArray n2) :: (wl, W.listOf (ts1.map fun (t : Addr × Str × List Str) => Value.ref t.1).toArray n1) :: (x, instObj 159 dx) :: (dx, dictOf (entsD w.params tf vs) 6) :: (Rn ++ R)) →
      DataRec vs wl ll fd sl → (fd == sysModules) = false → TreesIn w.params NAMES Rn ts1 → TreesIn w.params NAMES Rn ts2 → ts1.length ≤ 2 → ts2.length ≤ 2 → k ≤ k' → k' ≤ k + 70 → StrsAre fvs' (fs ++ (ts1 ++ ts2).flatMap fun t => t.2.2) → fvs'.length ≤ fvs.length + 32 → Q (.ref x) s') :
    wpAny (model PG w) A (call (.ref 245) [.ref tk, .ref fl]) Q E s := by
  have X := Γ.X
  have hpg : PG = PySem.Challenge.rw_og0080_01.row.prog := rfl
  revert hpg X; k_fill; intro X hpg
  refine' Γ.enter [(Str.ofString "take", .ref tk), (Str.ofString "found", .ref fl)] (by omega) F Λ ?b1 ?b2 ?b4 ?b5 ?c1 fun A' env' g L' s₁ m₁ Q' E' e₁ Γ₁ F₁ hm₁ Λ₁ hE fin => ?_
  case b1 => k_is
  case b2 => k_is
  case b4 => rfl
  case b5 => kernel_rfl
  case c1 => kernel_rfl
  have H₁ : Has [(Str.ofString "take", .ref tk), (Str.ofString "found", .ref fl)] m₁ := (Has.nil.cons (hm₁ _ _ rfl)).cons (hm₁ _ _ rfl)
  -- data = Data()
  refine wpAny_execs_cons (wpAny_Assign_Name (Γ₁.callK0 F₁ (.ref 159) ?_))
  refine Γ₁.data F₁ Λ₁ fun x dx wl ll fd sl vs tf s₂ e₂ F₂ Λ₂ D hlo => ?_
  refine Γ₁.st F₂ Λ₂ fun s₃ m₃ e₃ F₃ p₃ Λ₃ => ?_
  have H₃ := p₃.has H₁
  have Λ₄ : Led g L' s₃.heap ((pl, W.listOf [Value.int k t].toArray 0) :: ([(fl, W.listOf fvs.toArray nf), (sl, W.listOf #[] 0), (fd, dictOf [] 0), (ll, W.listOf #[] 0), (wl, W.listOf #[] 0), (x, instObj 159 dx), (dx, dictOf (entsD w.params tf vs) 6)] ++ R)) := Λ₃.pulls [7, 7]
  -- for turn in range(take(3)): data.working.append(..)
  refine wpAny_execs_cons (Γ₁.forR F₃ (Γ₁.takeN F₃ H₃.get Λ₄ (K.mono fun p h => List.mem_append_right _ h) hk0 (by omega) (by decide) fun r t' t'' s₄ hr0 hr1 e₄ F₄ Λ₅ => ?_) hE)
  have Λ₆ : Led g L' s₄.heap ((pl, W.listOf [Value.int (k + 1) t'].toArray 0) :: (fl, W.listOf fvs.toArray nf) :: (wl, W.listOf #[] 0) :: ([(sl, W.listOf #[] 0), (fd, dictOf [] 0), (ll, W.listOf #[] 0), (x, instObj 159 dx), (dx, dictOf (entsD w.params tf vs) 6)] ++ R)) := Λ₅.pulls [5, 2, 2]
  refine ⟨r.toNat, t'', _, _, by rw [Int.toNat_of_nonneg hr0], by omega, F₄, Λ₆, ?_⟩
  refine' Fn.loops (JD w.params pl fl wl (k + 1) fvs.length fs ([(sl, W.listOf #[] 0), (fd, dictOf [] 0), (ll, W.listOf #[] 0), (x, instObj 159 dx), (dx, dictOf (entsD w.params tf vs) 6)] ++ R) [(Str.ofString "data", .ref x), (Str.ofString "take", .ref tk), (Str.ofString "found", .ref fl)]) ?j0 ?turn ?fin
  case j0 => exact ⟨[], [], _, _, _, _, _, rfl, (fun _ h => nomatch h), rfl, by rw [List.flatMap_nil, List.append_nil]; exact hfs, by omega, by omega, by omega, H₃⟩
  case turn =>
    clear F Λ F₁ Λ₁ F₂ Λ₂ F₃ Λ₃ F₄ Λ₄ Λ₅ Λ₆ e₁ e₂ e₃ e₄ H₁ H₃ p₃ hm₁
    rintro i v m₀ m₁ l₁ s₁ I o hi ⟨ti, rfl⟩ ⟨ts, Rn, k', t₁, fvs₁, n₁, n₂, rfl, hT, hl, hS, hk', hk'', hf', Ag⟩ _ e₁ F₁ p₁ Λ₁
    have H₁ := p₁.has Ag
    have Λ₂ : Led g L' s₁.heap ((pl, W.listOf [Value.int k' t₁].toArray 0) :: (fl, W.listOf fvs₁.toArray n₁) :: ([(wl, W.listOf (ts.map fun t => Value.ref t.1).toArray n₂), (I, o)] ++ (Rn ++ ([(sl, W.listOf #[] 0), (fd, dictOf [] 0), (ll, W.listOf #[] 0), (x, instObj 159 dx), (dx, dictOf (entsD w.params tf vs) 6)] ++ R)))) := Λ₁.pulls [3, 3, 3]
    have hx1 : ∀ q : List (Addr × Obj), (x, instObj 159 dx) ∈ q ++ (Rn ++ ([(sl, W.listOf #[] 0), (fd, dictOf [] 0), (ll, W.listOf #[] 0), (x, instObj 159 dx), (dx, dictOf (entsD w.params tf vs) 6)] ++ R)) := fun q => List.mem_append_right _ (List.mem_append_right _ (.tail _ (.tail _ (.tail _ (.head _)))))
    have hx2 : ∀ q : List (Addr × Obj), (dx, dictOf (entsD w.params tf vs) 6) ∈ q ++ (Rn ++ ([(sl, W.listOf #[] 0), (fd, dictOf [] 0), (ll, W.listOf #[] 0), (x, instObj 159 dx), (dx, dictOf (entsD w.params tf vs) 6)] ++ R)) := fun q => List.mem_append_right _ (List.mem_append_right _ (.tail _ (.tail _ (.tail _ (.tail _ (.head _))))))
    have htl : (ts.map fun t => Value.ref t.1).length = ts.length := List.length_map _
    refine wpAny_execs_cons (stmt_append (Γ₁.attr F₁ Λ₂.N H₁.get (.tail _ (.tail _ (hx1 _))) (.tail _ (.tail _ (hx2 _))) D.1 ⟨wl, _, _, rfl, Λ₂.get (.tail _ (.tail _ (.head _))), ?_⟩) (hi := Γ₁.inter))
    refine data_arg (i := i) Γ₁ (by omega) F₁ Λ₂ (K.mono fun p h => List.mem_append_right _ (List.mem_append_right _ (List.mem_append_right _ h))) (by omega) (by omega) (by decide +kernel) hS (by omega) (by omega) H₁.get H₁.get H₁.get (by kernel_rfl) fun y zs k₂ t₂ fvs₂ n₃ Rn₂ s₂ e₂ F₂ Λ₃ hk₂ hk₂' hS₂ hT₂ => ?_
    have Λ₄ : Led g L' s₂.heap ((wl, W.listOf (ts.map fun t => Value.ref t.1).toArray n₂) :: (pl, W.listOf [Value.int k₂ t₂].toArray 0) :: (fl, W.listOf fvs₂.toArray n₃) :: (Rn₂ ++ (I, o) :: (Rn ++ ([(sl, W.listOf #[] 0), (fd, dictOf [] 0), (ll, W.listOf #[] 0), (x, instObj 159 dx), (dx, dictOf (entsD w.params tf vs) 6)] ++ R)))) :=
      Λ₃.perm (List.perm_middle (l₁ := _ :: _ :: Rn₂))
    refine app_l F₂ Λ₄ (by omega) fun s₃ e₃ F₃ Λ₅ => ?_
    have ea : (ts.map fun t => Value.ref t.1) ++ [Value.ref y] = (ts ++ [(y, Str.ofString "W" ++ numStr i, zs)]).map fun t => Value.ref t.1 := by rw [List.map_append]; rfl
    rw [ea] at Λ₅
    have hl₂ : fvs₂.length = fvs₁.length + zs.length := by rw [hS₂.length, hS.length, List.length_append]
    have hz : zs.length ≤ 8 := by obtain ⟨_, _, _, _, h, _⟩ := hT₂; exact h
    refine wpAny_execs_nil ⟨rfl, _, (pl, _) :: (fl, _) :: (wl, _) :: ((Rn₂ ++ Rn) ++ ([(sl, W.listOf #[] 0), (fd, dictOf [] 0), (ll, W.listOf #[] 0), (x, instObj 159 dx), (dx, dictOf (entsD w.params tf vs) 6)] ++ R)), e₁.trans (e₂.trans e₃), F₃, ?_, (fun _ h => nomatch h), ts ++ [(y, Str.ofString "W" ++ numStr i, zs)], Rn₂ ++ Rn, k₂, t₂, fvs₂, n₃, n₂ + 1, rfl, ?_, by rw [List.length_append, hl]; rfl, ?_, by omega, by omega, by omega, H₁.sub fun _ h => .tail _ h⟩
    · rw [List.append_assoc]
      exact Λ₅.perm ((List.perm_middle (l₁ := _ :: _ :: _ :: Rn₂)).trans (pulls_perm [1, 3, 3, 3] _))
    · intro q hq
      rcases List.mem_append.mp hq with hq | hq
      · exact (hT q hq).mono fun p h => List.mem_append_right _ h
      · rw [List.mem_singleton.mp hq]; exact hT₂.mono fun p h => List.mem_append_left _ h
    · rw [List.flatMap_append, ← List.append_assoc]
      simpa using hS₂
  case fin =>
    clear F Λ F₁ Λ₁ F₂ Λ₂ F₃ Λ₃ F₄ Λ₄ Λ₅ Λ₆ H₁ H₃ p₃ hm₁
    rintro s₁' m₁ l₁ ⟨ts1, Rn1, k1, t1, fvs1, nf1, nw, rfl, hTs1, hl1, hS1, hk1', hk1'', hf1, Ag1⟩ _ e₁' F₁ Λ₁
    have Λ₂ : Led g L' s₁'.heap ((pl, W.listOf [Value.int k1 t1].toArray 0) :: ([(fl, W.listOf fvs1.toArray nf1), (ll, W.listOf #[] 0)] ++ ([(wl, W.listOf (ts1.map fun t => Value.ref t.1).toArray nw), (sl, W.listOf #[] 0), (fd, dictOf [] 0), (x, instObj 159 dx), (dx, dictOf (entsD w.params tf vs) 6)] ++ (Rn1 ++ R)))) :=
      Λ₁.perm (((List.perm_append_comm_assoc Rn1 [_, _, _, _, _] R).append_left [_, _, _]).trans (pulls_perm [7, 7, 6, 6, 6, 7, 7, 7] _))
    refine wpAny_execs_cons (Γ₁.forR F₁ (Γ₁.takeN F₁ Ag1.get Λ₂ (K.mono fun p h => List.mem_append_right _ (List.mem_append_right _ (List.mem_append_right _ h))) (by omega) (by omega) (by decide) fun r₂ t₂ t₃ s₅ hr0' hr1' e₅ F₅ Λ₃ => ?_) hE)
    have Λ₄ : Led g L' s₅.heap ((pl, W.listOf [Value.int (k1 + 1) t₂].toArray 0) :: (fl, W.listOf fvs1.toArray nf1) :: (ll, W.listOf #[] 0) :: ([] ++ ([(wl, W.listOf (ts1.map fun t => Value.ref t.1).toArray nw), (sl, W.listOf #[] 0), (fd, dictOf [] 0), (x, instObj 159 dx), (dx, dictOf (entsD w.params tf vs) 6)] ++ (Rn1 ++ R)))) := Λ₃
    refine ⟨r₂.toNat, t₃, _, _, by rw [Int.toNat_of_nonneg hr0'], by omega, F₅, Λ₄, ?_⟩
    refine' Fn.loops (JD w.params pl fl ll (k1 + 1) fvs1.length (fs ++ ts1.flatMap fun t => t.2.2) ([(wl, W.listOf (ts1.map fun t => Value.ref t.1).toArray nw), (sl, W.listOf #[] 0), (fd, dictOf [] 0), (x, instObj 159 dx), (dx, dictOf (entsD w.params tf vs) 6)] ++ (Rn1 ++ R)) [(Str.ofString "data", .ref x), (Str.ofString "take", .ref tk), (Str.ofString "found", .ref fl)]) ?j2 ?turn2 ?fin2
    case j2 => exact ⟨[], [], _, _, _, _, _, rfl, (fun _ h => nomatch h), rfl, by rw [List.flatMap_nil, List.append_nil]; exact hS1, by omega, by omega, by omega, Ag1⟩
    case turn2 =>
      clear F₁ Λ₁ Λ₂ Λ₃ Λ₄ F₅ hTs1 hS1 Ag1
      rintro i v m₀ m₁ l₁ s₁ I o hi ⟨ti, rfl⟩ ⟨ts, Rn, k', t₁, fvs₁, n₁, n₂, rfl, hT, hl, hS, hk', hk'', hf', Ag⟩ _ e₁ F₁ p₁ Λ₁
      have H₁ := p₁.has Ag
      have Λ₂ : Led g L' s₁.heap ((pl, W.listOf [Value.int k' t₁].toArray 0) :: (fl, W.listOf fvs₁.toArray n₁) :: ([(ll, W.listOf (ts.map fun t => Value.ref t.1).toArray n₂), (I, o)] ++ (Rn ++ ([(wl, W.listOf (ts1.map fun t => Value.ref t.1).toArray nw), (sl, W.listOf #[] 0), (fd, dictOf [] 0), (x, instObj 159 dx), (dx, dictOf (entsD w.params tf vs) 6)] ++ (Rn1 ++ R))))) := Λ₁.pulls [3, 3, 3]
      have hx1 : ∀ q : List (Addr × Obj), (x, instObj 159 dx) ∈ q ++ (Rn ++ ([(wl, W.listOf (ts1.map fun t => Value.ref t.1).toArray nw), (sl, W.listOf #[] 0), (fd, dictOf [] 0), (x, instObj 159 dx), (dx, dictOf (entsD w.params tf vs) 6)] ++ (Rn1 ++ R))) := fun q => List.mem_append_right _ (List.mem_append_right _ (.tail _ (.tail _ (.tail _ (.head _)))))
      have hx2 : ∀ q : List (Addr × Obj), (dx, dictOf (entsD w.params tf vs) 6) ∈ q ++ (Rn ++ ([(wl, W.listOf (ts1.map fun t => Value.ref t.1).toArray nw), (sl, W.listOf #[] 0), (fd, dictOf [] 0), (x, instObj 159 dx), (dx, dictOf (entsD w.params tf vs) 6)] ++ (Rn1 ++ R))) := fun q => List.mem_append_right _ (List.mem_append_right _ (.tail _ (.tail _ (.tail _ (.tail _ (.head _))))))
      have htl : (ts.map fun t => Value.ref t.1).length = ts.length := List.length_map _
      refine wpAny_execs_cons (stmt_append (Γ₁.attr F₁ Λ₂.N H₁.get (.tail _ (.tail _ (hx1 _))) (.tail _ (.tail _ (hx2 _))) D.2.1 ⟨ll, _, _, rfl, Λ₂.get (.tail _ (.tail _ (.head _))), ?_⟩) (hi := Γ₁.inter))
      refine data_arg (i := i) Γ₁ (by omega) F₁ Λ₂ (K.mono fun p h => List.mem_append_right _ (List.mem_append_right _ (List.mem_append_right _ (List.mem_append_right _ h)))) (by omega) (by omega) (by decide +kernel) hS (by omega) (by omega) H₁.get H₁.get H₁.get (by kernel_rfl) fun y zs k₂ t₂ fvs₂ n₃ Rn₂ s₂ e₂ F₂ Λ₃ hk₂ hk₂' hS₂ hT₂ => ?_
      have Λ₄ : Led g L' s₂.heap ((ll, W.listOf (ts.map fun t => Value.ref t.1).toArray n₂) :: (pl, W.listOf [Value.int k₂ t₂].toArray 0) :: (fl, W.listOf fvs₂.toArray n₃) :: (Rn₂ ++ (I, o) :: (Rn ++ ([(wl, W.listOf (ts1.map fun t => Value.ref t.1).toArray nw), (sl, W.listOf #[] 0), (fd, dictOf [] 0), (x, instObj 159 dx), (dx, dictOf (entsD w.params tf vs) 6)] ++ (Rn1 ++ R))))) :=
        Λ₃.perm (List.perm_middle (l₁ := _ :: _ :: Rn₂))
      refine app_l F₂ Λ₄ (by omega) fun s₃ e₃ F₃ Λ₅ => ?_
      have ea : (ts.map fun t => Value.ref t.1) ++ [Value.ref y] = (ts ++ [(y, Str.ofString "L" ++ numStr i, zs)]).map fun t => Value.ref t.1 := by rw [List.map_append]; rfl
      rw [ea] at Λ₅
      have hl₂ : fvs₂.length = fvs₁.length + zs.length := by rw [hS₂.length, hS.length, List.length_append]
      have hz : zs.length ≤ 8 := by obtain ⟨_, _, _, _, h, _⟩ := hT₂; exact h
      refine wpAny_execs_nil ⟨rfl, _, (pl, _) :: (fl, _) :: (ll, _) :: ((Rn₂ ++ Rn) ++ ([(wl, W.listOf (ts1.map fun t => Value.ref t.1).toArray nw), (sl, W.listOf #[] 0), (fd, dictOf [] 0), (x, instObj 159 dx), (dx, dictOf (entsD w.params tf vs) 6)] ++ (Rn1 ++ R))), e₁.trans (e₂.trans e₃), F₃, ?_, (fun _ h => nomatch h), ts ++ [(y, Str.ofString "L" ++ numStr i, zs)], Rn₂ ++ Rn, k₂, t₂, fvs₂, n₃, n₂ + 1, rfl, ?_, by rw [List.length_append, hl]; rfl, ?_, by omega, by omega, by omega, H₁.sub fun _ h => .tail _ h⟩
      · rw [List.append_assoc]
        exact Λ₅.perm ((List.perm_middle (l₁ := _ :: _ :: _ :: Rn₂)).trans (pulls_perm [1, 3, 3, 3] _))
      · intro q hq
        rcases List.mem_append.mp hq with hq | hq
        · exact (hT q hq).mono fun p h => List.mem_append_right _ h
        · rw [List.mem_singleton.mp hq]; exact hT₂.mono fun p h => List.mem_append_left _ h
      · rw [List.flatMap_append, ← List.append_assoc]
        simpa using hS₂
    case fin2 =>
      rintro s₂' m₂ l₂ ⟨ts2, Rn2, k2, t2, fvs2, nf2, nl, rfl, hTs2, hl2, hS2, hk2', hk2'', hf2, Ag2⟩ _ e₂' F₂ Λ₅
      have Λ₆ : Led g L' s₂'.heap ((pl, W.listOf [Value.int k2 t2].toArray 0) :: (fl, W.listOf fvs2.toArray nf2) :: (fd, dictOf [] 0) :: (sl, W.listOf #[] 0) :: (ll, W.listOf (ts2.map fun t => Value.ref t.1).toArray nl) :: (wl, W.listOf (ts1.map fun t => Value.ref t.1).toArray nw) :: (x, instObj 159 dx) :: (dx, dictOf (entsD w.params tf vs) 6) :: ((Rn2 ++ Rn1) ++ R)) := by
        rw [List.append_assoc]
        exact Λ₅.perm (((List.perm_append_comm_assoc Rn2 [_, _, _, _, _] (Rn1 ++ R)).append_left [_, _, _]).trans (pulls_perm [7, 7, 5, 5, 6, 7, 7, 7] _))
      refine wpAny_execs_cons (wpAny_Return_some (Γ₁.lcl F₂ Ag2.get ?_))
      refine fin _ (.ref x) _ _ _ (.inl rfl) F₂ Λ₆ fun F₃ Λ₇ => ?_
      refine ret x dx wl ll fd sl vs tf ts1 ts2 nw nl k2 t2 fvs2 nf2 (Rn2 ++ Rn1) _ ?_ F₃ Λ₇ D hlo (hTs1.mono fun p h => List.mem_append_right _ h) (hTs2.mono fun p h => List.mem_append_left _ h) (by omega) (by omega) (by omega) (by omega) (by rw [List.flatMap_append, ← List.append_assoc]; exact hS2) (by omega)
      exact e₁.trans (e₂.trans (e₃.trans (e₄.trans (e₁'.trans (e₅.trans e₂')))))
end
end Mine
end
section
open PySem PySem.W PySem.Calls PyProof.Rows
namespace Mine
section
variable {prog : Program} {w : World} {A : Around} {E : Value → Shared → Prop} {s : Shared} {h₀ : Heap} {L D : Addr} {m : Str → Option Value} {R l : List (Addr × Obj)} {env : Env}
/-- while, in terms of the ledger -/
theorem while_l {Q : Flow → Shared → Prop} {test : PySem.Expr} {body : List Stmt} {pos : Pos} (J : Nat → (Str → Option Value) → List (Addr × Obj) → Prop) {n₀ : Nat} (F : Fr h₀ L s.heap m) (Λ : Led h₀ L s.heap l) (hJ : J n₀ m l)
    (turn : ∀ n m₁ l₁ s₁, Same s s₁ → Fr h₀ L s₁.heap m₁ → Led h₀ L s₁.heap l₁ → J n m₁ l₁ →
      wpAny (model prog w) A (isTrue test env (eval test env)) (fun b s₂ =>
        if b = true then wpAny (model prog w) A (execs body env) (fun f s₃ => f = .next ∧ ∃ m' l' n', Same s s₃ ∧ Fr h₀ L s₃.heap m' ∧ Led h₀ L s₃.heap l' ∧ n' < n ∧ J n' m' l') E s₂ else Q .next s₂) E s₁)
    (hE : PassesOwn (model prog w) A env E) : wpAny (model prog w) A (exec (.While test body [] pos) env) Q E s := by
  refine wpAny_While (codeAny_whileLoop (fun n s' => ∃ m₁ l₁, Same s s' ∧ Fr h₀ L s'.heap m₁ ∧ Led h₀ L s'.heap l₁ ∧ J n m₁ l₁) ?_ n₀ ⟨m, l, ⟨rfl, rfl, rfl⟩, F, Λ, hJ⟩)
  rintro n s' ⟨m₁, l₁, e₁, F₁, Λ₁, J₁⟩
  refine wpAny_mono (turn n m₁ l₁ s' e₁ F₁ Λ₁ J₁) (fun b s₂ h₂ => ?_) hE
  cases b with
  | false =>
    simp only [Bool.false_eq_true, if_false] at h₂ ⊢
    exact wpAny_execs_nil h₂
  | true =>
    simp only [if_true] at h₂ ⊢
    refine wpAny_mono h₂ (fun f s₃ h₃ => ?_) hE
    obtain ⟨rfl, m', l', n', e', F', Λ', hn, J'⟩ := h₃
    exact ⟨n', hn, m', l', e', F', Λ', J'⟩
/-- a list against an empty one -/
theorem ne_nil {Q : Value → Shared → Prop} {D D' : Addr} {vs : List Value} {n n' : Nat} (h1 : s.heap.get? D = some (W.listOf vs.toArray n)) (h2 : s.heap.get? D' = some (W.listOf #[] n')) (hu : A.units < cLine) (h : Q (.bool (!vs.isEmpty)) s) :
    wpAny (model prog w) A (compareOp .NotEq (.ref D) (.ref D')) Q E s := by
  cases vs with
  | nil =>
    have := (SeqAt.RcNeAt.lists (s := s) (A := A) (items := #[]) (items2 := #[]) (e := fun _ => true) ⟨_, h1, rfl, _, rfl⟩ ⟨_, h2, rfl, _, rfl⟩ rfl hu (fun j h => absurd h (Nat.not_lt_zero j))) prog w E Q
    exact this h
  | cons v r =>
    exact (SeqAt.RcNeAt.lists_lengths (s := s) (A := A) (items := (v :: r).toArray) (items2 := #[]) ⟨_, h1, rfl, _, rfl⟩ ⟨_, h2, rfl, _, rfl⟩ (by simp) hu) prog w E Q h
theorem pop_l {Q : Value → Shared → Prop} {p : List Value} {y : Value} {n : Nat} (F : Fr h₀ L s.heap m) (Λ : Led h₀ L s.heap ((D, W.listOf (p ++ [y]).toArray n) :: R)) (hz : p.length ≤ 1000)
    (ret : ∀ s', Same s s' → Fr h₀ L s'.heap m → Led h₀ L s'.heap ((D, W.listOf p.toArray (n + 1)) :: R) → Q y s') : wpAny (model prog w) A (call (.builtin "list.pop") [.ref D]) Q E s := by
  refine kl_pop F Λ.N (p := p) (y := y) (kpa_last y p) (.head Λ.ne) (by rw [sizeLine_eq]; simp; omega) fun h' F' N' => ret _ ⟨rfl, rfl, rfl⟩ F' (Λ.upd N')
theorem ext_l {Q : Value → Shared → Prop} {b : Addr} {its its2 : List Value} {n n2 : Nat} (F : Fr h₀ L s.heap m) (Λ : Led h₀ L s.heap ((D, W.listOf its.toArray n) :: R)) (hb : (b, W.listOf its2.toArray n2) ∈ R) (hz : its.length ≤ 1000) (hz2 : its2.length ≤ 1000)
    (ret : ∀ n' s', Same s s' → Fr h₀ L s'.heap m → Led h₀ L s'.heap ((D, W.listOf (its ++ its2).toArray n') :: R) → Q .none s') : wpAny (model prog w) A (call (.builtin "list.extend") [.ref D, .ref b]) Q E s := by
  have hd : ¬(!its.toArray.isEmpty && Builtin.List.listTooLong (its.toArray.size + its2.toArray.size)) = true := by
    have : Builtin.List.listTooLong (its.toArray.size + its2.toArray.size) = false := by
      unfold Builtin.List.listTooLong
      simp [sizeLine_eq]
      omega
    rw [this]; simp
  have s1 : its.toArray.size = its.length := by simp
  have s2 : its2.toArray.size = its2.length := by simp
  cases its2 with
  | nil =>
    refine kxn_extend F Λ.N (.tail _ hb) (by simp) (.head Λ.ne) hd (by rw [sizeLine_eq]; simp; omega) (by rw [sizeLine_eq]; simp; omega) fun h' F' N' => ret n _ ⟨rfl, rfl, rfl⟩ F' (by rw [List.append_nil]; exact Λ.upd N')
  | cons v r =>
    refine kl_extend F Λ.N (.tail _ hb) (l := its ++ v :: r) (by simp) (by simp) (.head Λ.ne) hd (by rw [sizeLine_eq]; simp; omega) (by rw [sizeLine_eq, s1, s2]; omega) fun h' F' N' => ret _ _ ⟨rfl, rfl, rfl⟩ F' (Λ.upd N')
end
section
variable {prog : Program} {w : World} {A : Around} {E : Value → Shared → Prop} {s : Shared} {h₀ : Heap} {L D : Addr} {m : Str → Option Value} {l : List (Addr × Obj)}
/-- x[::-1], x a list of the ledger -/
theorem rev_l {Q : Value → Shared → Prop} {value slice : PySem.Expr} {D : Addr} {vs : List Value} {n : Nat} {vk : Value} {ops : List Value} (F : Fr h₀ L s.heap m) (Λ : Led h₀ L s.heap l) (hD : (D, W.listOf vs.toArray n) ∈ l) (pk : IsPart vk (some (-1))) (hz : vs.length ≤ 1000)
    (ret : ∀ D' s', Same s s' → Fr h₀ L s'.heap m → Led h₀ L s'.heap ((D', W.listOf vs.reverse.toArray 0) :: l) → Q (.ref D') s')
    (hs : subscripted slice false (.ref D) (.ref s.heap.objs.size) = operate ops (getItem (.ref D) (.ref s.heap.objs.size))) :
    wpAny (model prog w) A (subscriptTail value slice (.ref D) (.ref s.heap.objs.size)) Q E { s with heap := s.heap.push { cls := .type "slice", data := .fields #[.none, .none, vk] } } := by
  have hl : s.heap.IsList D vs.toArray := ⟨_, Λ.get hD, rfl, _, rfl⟩
  refine tail_any (Heap.IsList.typeIs (s := { s with heap := s.heap.push { cls := .type "slice", data := .fields #[.none, .none, vk] } }) (hl.push _)) list_getitem_lookup
    (wpAny_getItem_list_slice (hl.push _) (Heap.IsSliceOf.new ..) .none .none pk (by decide) ?_ (by rw [sizeLine_eq]; simp; omega)) hs
  have N1 := News.push (F.push { cls := .type "slice", data := .fields #[.none, .none, vk] }) (Λ.N.grown fun _ _ e => Heap.get?_push_of_some _ e) { cls := .type "list", data := .seq (slicePick vs.toArray none none (some (-1))) }
  rw [krv_pick] at N1 ⊢
  refine ret _ _ ⟨rfl, rfl, rfl⟩ ((F.push _).push _) (Led.cons Λ N1 fun p hp => ?_)
  rw [Heap.size_push]
  exact Nat.lt_succ_of_lt (Heap.lt_size (Λ.N p hp).1)
end
section
variable {prog : Program} {w : World} {A : Around} {E : Value → Shared → Prop} {s : Shared} {env : Env}
/-- o.name(), o a list -/
theorem meth0 {Q : Value → Shared → Prop} {pl : Sem Bool} {o : PySem.Expr} {name : Str} {id : String} {p1 p2 : Pos} (slot : Slot "list" name id) (hty : typeOf (.builtin id) = pure (.type "method_descriptor"))
    (h : wpAny (model prog w) A (eval o env) (fun ov s₁ => ∃ D its n, ov = .ref D ∧ s₁.heap.get? D = some (W.listOf its n) ∧ wpAny (model prog w) A (call (.builtin id) [.ref D]) Q E s₁) E s)
    (hc : eval (.Call (.Attribute o name p1) [] [] p2) env = (do
      let ov ← eval o env
      standAt p1.atName
      let (f, first) ← holding [ov] (getMethod ov name pl)
      callWith p2 f first (backTo p2 (starEach [] env)) (backToKw p2 (keywordEach [] env))) := by rfl) :
    wpAny (model prog w) A (eval (.Call (.Attribute o name p1) [] [] p2) env) Q E s := by
  refine methodCall_KW (pl := pl) ?_ hc
  refine wpAny_mono h (fun ov s₁ h₁ => ?_) fun _ _ x => x
  obtain ⟨D, its, n, rfl, hD, h₁⟩ := h₁
  exact getMethod_builtin ⟨_, hD, rfl⟩ PySem.F.plainAttrs_list slot hty (fun a e => by cases e; exact ⟨_, hD, rfl⟩) (Calls.callWith_builtin rfl (evalArgs_nil3 h₁))
/-- o.name(e), o a list -/
theorem meth1 {Q : Value → Shared → Prop} {pl : Sem Bool} {o e : PySem.Expr} {name : Str} {id : String} {p1 p2 : Pos} (slot : Slot "list" name id) (hty : typeOf (.builtin id) = pure (.type "method_descriptor"))
    (h : wpAny (model prog w) A (eval o env) (fun ov s₁ => ∃ D its n, ov = .ref D ∧ s₁.heap.get? D = some (W.listOf its n) ∧
      wpAny (model prog w) A (eval e env) (fun v s₂ => wpAny (model prog w) A (call (.builtin id) [.ref D, v]) Q E s₂) E s₁) E s)
    (he : starEach [e] env = (false, eval e env) :: starEach [] env := by rfl)
    (hc : eval (.Call (.Attribute o name p1) [e] [] p2) env = (do
      let ov ← eval o env
      standAt p1.atName
      let (f, first) ← holding [ov] (getMethod ov name pl)
      callWith p2 f first (backTo p2 (starEach [e] env)) (backToKw p2 (keywordEach [] env))) := by rfl) :
    wpAny (model prog w) A (eval (.Call (.Attribute o name p1) [e] [] p2) env) Q E s := by
  refine methodCall_KW (pl := pl) ?_ hc
  refine wpAny_mono h (fun ov s₁ h₁ => ?_) fun _ _ x => x
  obtain ⟨D, its, n, rfl, hD, h₁⟩ := h₁
  refine getMethod_builtin ⟨_, hD, rfl⟩ PySem.F.plainAttrs_list slot hty (fun a e => by cases e; exact ⟨_, hD, rfl⟩) ?_
  rw [he]
  exact Calls.callWith_builtin rfl (Calls.evalArgs_plain (Calls.spliced_cons (wpAny_mono h₁ (fun v s₂ h₂ => Calls.spliced_nil h₂) fun _ _ x => x)))
end
section
variable {w : World} {d : Nat} {cs : Scope} {cl : List (Str × Addr)} {A : Around} {env : Env} {L : Addr} {h₀ : Heap} {m : Str → Option Value} {R l : List (Addr × Obj)} {s : Shared} {E : Value → Shared → Prop}
theorem Fn.units (Γ : Fn w d cs cl A env L h₀) (hd : d < 2000) : A.units < cLine := by
  obtain ⟨_, _, _, _, _, _, _, rfl, _, _, _, h⟩ := Γ
  simp only [cLine]
  show _ < 9900
  omega
theorem Fo.len_roots : ∀ f : Fo, f.roots.length ≤ f.pre.length
  | .nil => Nat.le_refl _
  | .cons _ k r => by have := Fo.len_roots r; simp only [Fo.roots, Fo.pre, List.length_cons, List.length_append]; omega
/-- what stands in the loop of items_under -/
def JU (P : Params) (fn ln : Addr) (all : List Addr) (wt : Addr → List Str) (R : List (Addr × Obj)) (n : Nat) (m : Str → Option Value) (l : List (Addr × Obj)) : Prop :=
  ∃ done g n1 n2 Rn, l = (fn, W.listOf (done.map Value.ref).toArray n1) :: (ln, W.listOf (g.roots.map Value.ref).reverse.toArray n2) :: (Rn ++ R) ∧ done ++ g.pre = all ∧ g.pre.length = n ∧ FoIn P R wt g ∧
    Has [(Str.ofString "found", .ref fn), (Str.ofString "line", .ref ln)] m
set_option maxHeartbeats 2000000 in
theorem items_c {Q : Value → Shared → Prop} {x : Addr} {f : Fo} {wt : Addr → List Str} (Γ : Fn w d cs cl A env L h₀) (hd' : d < 800) (F : Fr h₀ L s.heap m) (Λ : Led h₀ L s.heap R) (hT : FoIn w.params R wt (.cons x f .nil)) (hl : (Fo.cons x f .nil).pre.length ≤ 500)
    (ret : ∀ D n Rn s', Same s s' → Fr h₀ L s'.heap m → Led h₀ L s'.heap ((D, W.listOf ((Fo.cons x f .nil).pre.map Value.ref).toArray n) :: (Rn ++ R)) → Q (.ref D) s') :
    wpAny (model PG w) A (call (.ref 170) [.ref x]) Q E s := by
  have X := Γ.X
  have hpg : PG = PySem.Challenge.rw_og0080_01.row.prog := rfl
  revert hpg X; k_fill; intro X hpg
  refine' Γ.enter [(Str.ofString "item", .ref x)] (by omega) F Λ ?b1 ?b2 ?b4 ?b5 ?c1 fun A' env' g L' s₁ m₁ Q' E' e₁ Γ₁ F₁ hm₁ Λ₁ hE fin => ?_
  case b1 => k_is
  case b2 => k_is
  case b4 => rfl
  case b5 => kernel_rfl
  case c1 => kernel_rfl
  have H₁ : Has [(Str.ofString "item", .ref x)] m₁ := Has.nil.cons (hm₁ _ _ rfl)
  -- found = []
  refine wpAny_execs_cons (wpAny_Assign_Name (List_ (spliced_none (newList_l F₁ Λ₁ (by show 0 ≤ 1000; decide) fun fn s₂ e₂ F₂ Λ₂ _ => ?_))))
  refine Γ₁.st F₂ Λ₂ fun s₃ m₃ e₃ F₃ p₃ Λ₃ => ?_
  have H₃ := p₃.has H₁
  -- line = [item]
  refine wpAny_execs_cons (wpAny_Assign_Name (List_ (spliced_more (Γ₁.lcl F₃ H₃.get (spliced_none (newList_l F₃ Λ₃ (by show 1 ≤ 1000; decide) fun ln s₄ e₄ F₄ Λ₄ _ => ?_))))))
  refine Γ₁.st F₄ Λ₄ fun s₅ m₅ e₅ F₅ p₅ Λ₅ => ?_
  have H₅ := p₅.has H₃
  have hb : ∀ (g : Fo) (done : List Addr), done ++ g.pre = (Fo.cons x f .nil).pre → done.length ≤ 500 ∧ g.roots.length ≤ 500 := fun g done e => by
    have h1 := Fo.len_roots g
    have h2 := congrArg List.length e
    rw [List.length_append] at h2
    omega
  -- while line != []
  refine wpAny_execs_cons (while_l (JU w.params fn ln (Fo.cons x f .nil).pre wt R) (n₀ := (Fo.cons x f .nil).pre.length) F₅ (l := (fn, W.listOf #[] 0) :: (ln, W.listOf #[.ref x] 0) :: ([] ++ R)) (Λ₅.pulls [1]) ⟨[], .cons x f .nil, _, _, [], rfl, rfl, rfl, hT, H₅.sub (by intro q hq; simp only [List.mem_cons, List.not_mem_nil, or_false] at hq ⊢; rcases hq with h | h <;> simp [h])⟩ ?_ hE)
  clear F Λ F₁ Λ₁ F₂ Λ₂ F₃ Λ₃ F₄ Λ₄ F₅ Λ₅ H₁ H₃ H₅ p₃ p₅ hm₁
  rintro n m₁ l₁ s₆ e₆ F₁ Λ₁ ⟨done, gf, n1, n2, Rn, rfl, hall, hn, hG, H₁⟩
  have hbb := hb gf done hall
  refine wpAny_isTrue_Compare1 (Γ₁.lcl F₁ H₁.get (List_ (spliced_none (newList_l F₁ Λ₁ (by show 0 ≤ 1000; decide) fun t s₇ e₇ F₂ Λ₂ _ => ?_))))
  refine ne_nil (Λ₂.get (.tail _ (.tail _ (.head _)))) (Λ₂.get (.head _)) (Γ₁.units (by omega)) (wpAny_truthy_bool ?_)
  cases gf with
  | nil =>
    have ed : done = (Fo.cons x f .nil).pre := by rw [← hall, Fo.pre, List.append_nil]
    show wpAny (model PG w) A' (execs _ env') Q' E' s₇
    refine wpAny_execs_cons (wpAny_Return_some (Γ₁.lcl F₂ H₁.get ?_))
    refine fin _ (.ref fn) _ _ _ (.inl rfl) F₂ (Λ₂.pulls [1]) fun F₃ Λ₃ => ?_
    rw [ed] at Λ₃
    exact ret fn n1 ((t, W.listOf #[] 0) :: (ln, W.listOf #[] n2) :: Rn) _ (e₁.trans (e₂.trans (e₃.trans (e₄.trans (e₅.trans (e₆.trans e₇)))))) F₃ Λ₃
  | cons a k r =>
    have e0 : ((Fo.cons a k r).roots.map Value.ref).reverse = (r.roots.map Value.ref).reverse ++ [.ref a] := by show (Value.ref a :: r.roots.map Value.ref).reverse = _; rw [List.reverse_cons]
    have e1 : (!((Fo.cons a k r).roots.map Value.ref).reverse.isEmpty) = true := by rw [e0]; simp
    rw [if_pos e1]
    rw [e0] at Λ₂
    have hrl : r.roots.length ≤ 500 := by have := hbb.2; simp only [Fo.roots, List.length_cons] at this; omega
    have hkl : k.roots.length ≤ 500 := by
      have h1 := Fo.len_roots k
      have h2 := congrArg List.length hall
      simp only [Fo.pre, List.length_append, List.length_cons] at h2 hl
      omega
    -- one = line.pop()
    have Λ₃ : Led g L' s₇.heap ((ln, W.listOf ((r.roots.map Value.ref).reverse ++ [Value.ref a]).toArray n2) :: (t, W.listOf #[] 0) :: (fn, W.listOf (done.map Value.ref).toArray n1) :: (Rn ++ R)) := Λ₂.pulls [2]
    refine wpAny_execs_cons (wpAny_Assign_Name (meth0 PySem.F.slot_list_pop PySem.F.type_list_pop (Γ₁.lcl F₂ H₁.get ⟨ln, _, _, rfl, Λ₃.get (.head _), ?_⟩)))
    refine pop_l F₂ Λ₃ (by simp; omega) fun s₈ e₈ F₃ Λ₄ => ?_
    refine Γ₁.st F₃ Λ₄ fun s₉ m₉ e₉ F₄ p₄ Λ₅ => ?_
    have H₄ := p₄.has H₁
    -- found.append(one)
    have Λ₆ : Led g L' s₉.heap ((fn, W.listOf (done.map Value.ref).toArray n1) :: (ln, W.listOf (r.roots.map Value.ref).reverse.toArray (n2 + 1)) :: (t, W.listOf #[] 0) :: (Rn ++ R)) := Λ₅.pulls [2]
    refine wpAny_execs_cons (stmt_append (Γ₁.lcl F₄ H₄.get ⟨fn, _, _, rfl, Λ₆.get (.head _), ?_⟩) (hi := Γ₁.inter))
    refine Γ₁.lcl F₄ H₄.get (app_l F₄ Λ₆ (by rw [List.length_map]; omega) fun s₁₀ e₁₀ F₅ Λ₇ => ?_)
    -- line.extend(one.kids[::-1])
    obtain ⟨⟨dx, vs, tf, nm, c, kk, nk, nc, cs', i1, i2, i3, i4, i5, i6⟩, hk, hr⟩ := hG
    refine wpAny_execs_cons (wpAny_Expr_any (meth1 PySem.F.slot_list_extend PySem.F.type_list_extend (Γ₁.lcl F₅ H₄.get ⟨ln, _, _, rfl, Λ₇.get (.tail _ (.head _)), ?_⟩)) Γ₁.inter rfl)
    refine Subscript_ (Γ₁.attr (C := 133) F₅ Λ₇.N H₄.get (.tail _ (.tail _ (.tail _ (List.mem_append_right _ i1)))) (.tail _ (.tail _ (.tail _ (List.mem_append_right _ i2)))) i3.2.2.1 ?_)
    refine wpAny_Slice (wpAny_evalPart_none (wpAny_evalPart_none (wpAny_evalPart_some (wpAny_UnaryOp (wpAny_Constant_int (PyProof.Rows.neg_int ?_))))))
    refine rev_l (s := { s₁₀ with toks := _ }) F₅ Λ₇ (.tail _ (.tail _ (.tail _ (List.mem_append_right _ i4)))) (IsPart.int _ _) (by rw [List.length_map]; omega) (fun D s₁₁ e₁₁ F₆ Λ₈ => ?_) (by with_unfolding_all rfl)
    have Λ₉ : Led g L' s₁₁.heap ((ln, W.listOf (r.roots.map Value.ref).reverse.toArray (n2 + 1)) :: (D, W.listOf (k.roots.map Value.ref).reverse.toArray 0) :: (fn, _) :: (t, W.listOf #[] 0) :: (Rn ++ R)) := Λ₈.pulls [2, 0]
    refine ext_l F₆ Λ₉ (.head _) (by simp; omega) (by simp; omega) fun n' s₁₂ e₁₂ F₇ Λ₁₀ => ?_
    have ea : (r.roots.map Value.ref).reverse ++ (k.roots.map Value.ref).reverse = ((k.app r).roots.map Value.ref).reverse := by rw [Fo.roots_app, List.map_append, List.reverse_append]
    have eb : done.map Value.ref ++ [Value.ref a] = (done ++ [a]).map Value.ref := by rw [List.map_append]; rfl
    rw [ea, eb] at Λ₁₀
    refine wpAny_execs_nil ⟨rfl, m₉, (fn, _) :: (ln, _) :: (((D, W.listOf (k.roots.map Value.ref).reverse.toArray 0) :: (t, W.listOf #[] 0) :: Rn) ++ R), (k.app r).pre.length, ?_, F₇, Λ₁₀.pulls [2], ?_, done ++ [a], k.app r, _, _, _, rfl, ?_, rfl, hk.app hr, H₄.sub fun _ h => .tail _ h⟩
    · exact e₆.trans <| Same.trans e₇ (e₈.trans (e₉.trans (e₁₀.trans (Same.trans e₁₁ e₁₂))))
    · rw [Fo.pre_app]; rw [← hn]; simp only [Fo.pre, List.length_append, List.length_cons]; omega
    · rw [Fo.pre_app, ← hall]; simp [Fo.pre]
end
end Mine
end
section
open PySem PySem.W PySem.Calls PyProof.Rows
namespace Mine
/-- a dict of strs of the ledger -/
abbrev IsD (w : World) (o : Obj) (kvs : List (Str × Value)) : Prop := o.IsDictOf (PySem.strKind PG w) kvs
theorem strs_of_at {w : World} : ∀ {vs : List Value} {ks : List Str}, vs.length = ks.length → (∀ (j : Nat) (v : Value), vs[j]? = some v → ∃ k, ks[j]? = some k ∧ (PySem.strKind PG w).is k v = true) → StrsAre vs ks
  | [], [], _, _ => .nil
  | v :: r, k :: ks, hl, h => by
    obtain ⟨k', e, hi⟩ := h 0 v rfl
    cases e
    obtain ⟨t, rfl⟩ := Value.isStrOf_shape hi
    exact .cons k t (strs_of_at (Nat.succ.inj hl) fun j u hj => h (j + 1) u hj)
section
variable {w : World} {A : Around} {E : Value → Shared → Prop} {s : Shared} {h₀ : Heap} {L D d : Addr} {m : Str → Option Value} {R l : List (Addr × Obj)} {o : Obj} {kvs : List (Str × Value)}
theorem isD_nil : IsD w (dictOf [] 0) [] := ⟨#[], 0, ⟨rfl, rfl, rfl⟩, rfl, (fun e he => by simp at he), .nil, List.nodup_nil⟩
theorem isD_at (Λ : Led h₀ L s.heap l) (hm : (d, o) ∈ l) (hd : IsD w o kvs) : s.heap.DictOf (PySem.strKind PG w) d kvs := Heap.dictOf_iff.mpr ⟨o, Λ.get hm, hd⟩
theorem put_l {k : Str} {t : Tok} {v : Value} {Q : Unit → Shared → Prop} (F : Fr h₀ L s.heap m) (Λ : Led h₀ L s.heap ((d, o) :: R)) (hd : IsD w o kvs) (hz : kvs.length ≤ 1000)
    (ret : ∀ o' s', Same s s' → Fr h₀ L s'.heap m → Led h₀ L s'.heap ((d, o') :: R) → IsD w o' (stored kvs k v) → Q () s') : wpAny (model PG w) A (setItem (.ref d) (.str k t) v) Q E s := by
  refine wpAny_setItem_pairs (knd := PySem.strKind PG w) (strKind_is PG w k t) (isD_at Λ (.head _) hd) (fun h' hd' hs => ?_) (by rw [sizeLine_eq]; omega)
  obtain ⟨o', ho', hi⟩ := Heap.dictOf_iff.mp hd'
  have z := Λ.N _ (.head _)
  refine ret o' _ ⟨rfl, rfl, rfl⟩ (F.change hs z.2.1 z.2.2) ⟨fun p hp => ?_, Λ.D⟩ hi
  rcases List.mem_cons.mp hp with rfl | hp
  · exact ⟨ho', z.2⟩
  · have y := Λ.N p (.tail _ hp)
    exact ⟨(hs.2 p.1 (Λ.ne p hp)).trans y.1, y.2⟩
theorem get_l {value slice : PySem.Expr} {k : Str} {t : Tok} {v : Value} {Q : Value → Shared → Prop} (Λ : Led h₀ L s.heap l) (hm : (d, o) ∈ l) (hd : IsD w o kvs) (hv : valueAt kvs k = some v) (h : Q v { s with toks := s.toks + 1 })
    (hs : subscripted slice false (.ref d) (.str k t) = operate [.ref d, .str k t] (getItem (.ref d) (.str k t)) := by with_unfolding_all rfl) : wpAny (model PG w) A (subscriptTail value slice (.ref d) (.str k t)) Q E s := by
  have hD := (isD_at Λ hm hd).mapOf
  exact tail_any hD.typeIs slot_dict_getitem.lookup (wpAny_getItem_of (strKind_is PG w k t) hD hv h) hs
theorem in_l {k : Str} {t : Tok} {Q : Value → Shared → Prop} (Λ : Led h₀ L s.heap l) (hm : (d, o) ∈ l) (hd : IsD w o kvs) (lo : (d == sysModules) = false) (h : Q (.bool (valueAt kvs k).isSome) { s with toks := s.toks + 1 }) :
    wpAny (model PG w) A (compareOp .In (.str k t) (.ref d)) Q E s := wpAny_in_of (strKind_is PG w k t) lo (isD_at Λ hm hd).mapOf h
theorem notIn_l {k : Str} {t : Tok} {Q : Value → Shared → Prop} (Λ : Led h₀ L s.heap l) (hm : (d, o) ∈ l) (hd : IsD w o kvs) (lo : (d == sysModules) = false) (h : Q (.bool !(valueAt kvs k).isSome) { s with toks := s.toks + 1 }) :
    wpAny (model PG w) A (compareOp .NotIn (.str k t) (.ref d)) Q E s := wpAny_notIn_of (strKind_is PG w k t) lo (isD_at Λ hm hd).mapOf h
/-- a list of strs is sorted where it lies -/
theorem sort_l {vs : List Value} {ss : List Str} {n : Nat} {Q : Value → Shared → Prop} (F : Fr h₀ L s.heap m) (Λ : Led h₀ L s.heap ((D, W.listOf vs.toArray n) :: R)) (hS : StrsAre vs ss) (h64 : vs.length < 64)
    (ret : ∀ vs' ss' n' s', Same s s' → Fr h₀ L s'.heap m → Led h₀ L s'.heap ((D, W.listOf vs'.toArray n') :: R) → StrsAre vs' ss' → ss'.Perm ss → sortedS ss' = true → Q .none s') :
    wpAny (model PG w) A (call (.builtin "list.sort") [.ref D]) Q E s := by
  have z := Λ.N _ (.head _)
  have ho : s.heap.get? D = some (seqObj "list" vs.toArray n) := z.1
  refine wpAny_call_entry PyProof.Rows.slot_list_sort ⟨_, z.1, rfl⟩ PyProof.Rows.entry_list_sort (list_sort_treeK (κ := PyProof.Rows.strKind) strKind_oneLt ho hS.keysOf (fun v₁ v₂ rest e => keyKind_strs (by rw [← e]; exact hS)) h64 fun st' hp hs => ⟨.none, rfl, ?_⟩) (PyProof.Rows.args_list_sort _)
  obtain ⟨ss', h1, h2, h3⟩ := sorted_out_str hS hp hs
  obtain ⟨c, hc⟩ := sortedHeap_at (vs := vs) (out := (arrOf st').map (·.2)) ho
  have F4 : Fr h₀ L (sortedHeap s.heap D vs ((arrOf st').map (·.2))) m :=
    ksk_fr (((ksk_fr F (Heap.SameBut.update s.heap D (Obj.mapSeq fun _ => #[])) z.2.1 z.2.2).push (seqObj "tuple" vs.toArray 0)).push (seqObj "list" #[] 0)) (Heap.SameBut.update _ D (Obj.mapSeq fun _ => (arrOf st').map (·.2))) z.2.1 z.2.2
  refine ret ((arrOf st').map (·.2)).toList ss' c _ ⟨rfl, rfl, rfl⟩ F4 ⟨fun p hq => ?_, Λ.D⟩ h1 h2 h3
  rcases List.mem_cons.mp hq with rfl | hq
  · exact ⟨by rw [Array.toArray_toList]; exact hc, z.2⟩
  · have y := Λ.N p (.tail _ hq)
    exact ⟨(sortedHeap_old (Λ.ne p hq) (Heap.lt_size y.1)).trans y.1, y.2⟩
/-- sorted(a dict of strs) -/
theorem sortedD_l {Q : Value → Shared → Prop} (hh : A.handled = none) (F : Fr h₀ L s.heap m) (Λ : Led h₀ L s.heap l) (hm : (d, o) ∈ l) (hd : IsD w o kvs) (lo : (d == sysModules) = false) (h64 : kvs.length < 64)
    (ret : ∀ B vs' ss' n' s', Same s s' → Fr h₀ L s'.heap m → Led h₀ L s'.heap ((B, W.listOf vs'.toArray n') :: l) → StrsAre vs' ss' → ss'.Perm (kvs.map (·.1)) → sortedS ss' = true → Q (.ref B) s') :
    wpAny (model PG w) A (call (.builtin "sorted") [.ref d]) Q E s := by
  obtain ⟨ep, hat⟩ := (isD_at Λ hm hd).dictAt
  refine kdu_sorted (kdl_dict (knd := PySem.strKind PG w) (kvs := kvs) (ep := ep) lo) hh F Λ.N hat (by rw [sizeLine_eq]; omega) fun B h' tk vs F' N' l1 hl hv => ?_
  have hS : StrsAre vs (kvs.map (·.1)) := strs_of_at (by rw [List.length_map]; exact hl) fun j v hj => by
    obtain ⟨k, x, hk, hi⟩ := hv j v hj
    exact ⟨k, by rw [List.getElem?_map, hk]; rfl, hi⟩
  refine sort_l (s := { s with heap := h', toks := tk }) F' (Λ.cons N' l1) hS (by omega) fun vs' ss' n' s' e F₁ Λ₁ hS' hp hs => ret B vs' ss' n' s' e F₁ Λ₁ hS' hp hs
/-- sorted(a list of strs) -/
theorem sortedL_l {Q : Value → Shared → Prop} {vs : List Value} {ss : List Str} {n : Nat} (F : Fr h₀ L s.heap m) (Λ : Led h₀ L s.heap l) (hm : (D, W.listOf vs.toArray n) ∈ l) (hS : StrsAre vs ss) (h64 : vs.length < 64)
    (ret : ∀ B vs' ss' n' s', Same s s' → Fr h₀ L s'.heap m → Led h₀ L s'.heap ((B, W.listOf vs'.toArray n') :: l) → StrsAre vs' ss' → ss'.Perm ss → sortedS ss' = true → Q (.ref B) s') :
    wpAny (model PG w) A (call (.builtin "sorted") [.ref D]) Q E s :=
  sorted_N_str F Λ.N ⟨_, Λ.get hm, rfl, _, rfl⟩ hS h64 fun h' vs' ss' e F' N' hS' hp hs => ret _ vs' ss' e _ ⟨rfl, rfl, rfl⟩ F' (Λ.cons N' fun p hp => Nat.lt_succ_of_lt (Heap.lt_size (Λ.N p hp).1)) hS' hp hs
end
end Mine
end
section
open PySem PySem.W PySem.Calls PyProof.Rows
namespace Mine
theorem list_boot : bootBuiltins (Str.ofString "list") = some (.type "list") := by boot_fast
theorem sorted_boot : bootBuiltins (Str.ofString "sorted") = some (.builtin "sorted") := by boot_fast
theorem tuple_boot : bootBuiltins (Str.ofString "tuple") = some (.type "tuple") := by boot_fast
abbrev Tr := Addr × Str × List Str
abbrev refsT (ts : List Tr) : List Value := ts.map fun t => Value.ref t.1
/-- the dict of the described files' trees -/
def FilesIn (P : Params) (nms : List Str) (R : List (Addr × Obj)) : List (Str × Value) → List (Str × List Tr) → Prop
  | [], [] => True
  | (k, v) :: r, (k', ts) :: r' => k = k' ∧ (∃ a n, v = .ref a ∧ (a, W.listOf (refsT ts).toArray n) ∈ R ∧ TreesIn P nms R ts ∧ ts.length ≤ 2) ∧ FilesIn P nms R r r'
  | _, _ => False
theorem FilesIn.mono {P : Params} {nms : List Str} {R R' : List (Addr × Obj)} (h : ∀ p ∈ R, p ∈ R') : ∀ {kvs : List (Str × Value)} {fts : List (Str × List Tr)}, FilesIn P nms R kvs fts → FilesIn P nms R' kvs fts
  | [], [], _ => trivial
  | (_, _) :: _, (_, _) :: _, ⟨a, ⟨b, n, c, d, e, f⟩, g⟩ => ⟨a, ⟨b, n, c, h _ d, e.mono h, f⟩, g.mono h⟩
theorem FilesIn.names {P : Params} {nms : List Str} {R : List (Addr × Obj)} : ∀ {kvs : List (Str × Value)} {fts : List (Str × List Tr)}, FilesIn P nms R kvs fts → kvs.map (·.1) = fts.map (·.1)
  | [], [], _ => rfl
  | (_, _) :: _, (_, _) :: _, ⟨a, _, g⟩ => by rw [List.map_cons, List.map_cons, g.names, a]
theorem FilesIn.at {P : Params} {nms : List Str} {R : List (Addr × Obj)} {k : Str} : ∀ {kvs : List (Str × Value)} {fts : List (Str × List Tr)}, FilesIn P nms R kvs fts → k ∈ kvs.map (·.1) →
    ∃ ts a n, (k, ts) ∈ fts ∧ valueAt kvs k = some (.ref a) ∧ (a, W.listOf (refsT ts).toArray n) ∈ R ∧ TreesIn P nms R ts ∧ ts.length ≤ 2
  | (k', v) :: r, (k2, ts) :: r', hF, hk => by
    obtain ⟨rfl, ⟨a, n, rfl, d, e, f⟩, g⟩ := hF
    by_cases h : k' = k
    · subst h
      exact ⟨ts, a, n, .head _, by unfold valueAt; rw [List.find?_cons_of_pos (by simp)]; rfl, d, e, f⟩
    · have hk' : k ∈ r.map (·.1) := by
        rcases List.mem_cons.mp hk with e | e
        · exact absurd e.symm h
        · exact e
      obtain ⟨ts', a', n', h1, h2, h3⟩ := g.at hk'
      refine ⟨ts', a', n', .tail _ h1, ?_, h3⟩
      unfold valueAt at h2 ⊢
      rw [List.find?_cons_of_neg (by simpa using h)]; exact h2
theorem uniq_fst {α β : Type} {x y : α × β} : ∀ {l : List (α × β)}, (l.map (·.1)).Nodup → x ∈ l → y ∈ l → x.1 = y.1 → x = y
  | q :: r, hd, hx, hy, e => by
    rw [List.map_cons, List.nodup_cons] at hd
    rcases List.mem_cons.mp hx with h1 | h1
    · rcases List.mem_cons.mp hy with h2 | h2
      · rw [h1, h2]
      · exact absurd (List.mem_map.mpr ⟨y, h2, by rw [← e, h1]⟩) hd.1
    · rcases List.mem_cons.mp hy with h2 | h2
      · exact absurd (List.mem_map.mpr ⟨x, h1, by rw [e, h2]⟩) hd.1
      · exact uniq_fst hd.2 h1 h2 e
section
variable {w : World} {d : Nat} {cs : Scope} {cl : List (Str × Addr)} {A : Around} {env : Env} {L : Addr} {h₀ : Heap} {m : Str → Option Value} {R l : List (Addr × Obj)} {s : Shared} {E : Value → Shared → Prop}
/-- for x in <e, a list of the ledger>: .. -/
theorem Fn.forI {Q : Flow → Shared → Prop} {x : Str} {px : Pos} {iter : PySem.Expr} {body : List Stmt} {pos : Pos} (Γ : Fn w d cs cl A env L h₀)
    (h : wpAny (model PG w) A (eval iter env) (fun v s₁ => ∃ (D : Addr) (vs : List Value) (n : Nat) (m : Str → Option Value) (l : List (Addr × Obj)), v = .ref D ∧ (D, W.listOf vs.toArray n) ∈ l ∧ Fr h₀ L s₁.heap m ∧ Led h₀ L s₁.heap l ∧
      Loops PG w A E h₀ env L x body Q vs.length (fun i v => vs[i]? = some v) [(D, W.listOf vs.toArray n)] m l s₁) E s)
    (hE : PassesOwn (model PG w) A env E) (hx : nok cs .local x = true := by kernel_rfl) (hs : ∀ x, foldedSetIterable iter env x = pure x := by intro _; rfl) :
    wpAny (model PG w) A (exec (.For (.Name x px) iter body [] pos) env) Q E s := by
  have hk := Γ.k
  obtain ⟨_, _, _, _, _, _, _, rfl, rfl, c, _⟩ := Γ
  exact for_list (mh := rfl) hk (nok_of hx).1 h hs (hE := hE)
theorem Fn.handled (Γ : Fn w d cs cl A env L h₀) : A.handled = none := by
  obtain ⟨_, _, _, _, _, _, _, rfl, _⟩ := Γ
  rfl
theorem copy_l {Q : Value → Shared → Prop} {D : Addr} {vs : List Value} {n : Nat} (F : Fr h₀ L s.heap m) (Λ : Led h₀ L s.heap l) (hm : (D, W.listOf vs.toArray n) ∈ l) (hz : vs.length ≤ 1000)
    (ret : ∀ B n' s', Same s s' → Fr h₀ L s'.heap m → Led h₀ L s'.heap ((B, W.listOf vs.toArray n') :: l) → Q (.ref B) s') : wpAny (model PG w) A (call (.type "list") [.ref D]) Q E s :=
  kup_listOf F Λ.N hm (zs := vs) (by simp) (fun B c h' F' N' l1 => ret B c _ ⟨rfl, rfl, rfl⟩ F' (Λ.cons N' l1)) (by rw [sizeLine_eq]; simp; omega)
theorem cat_l {Q : Value → Shared → Prop} {a b : Addr} {vs ws : List Value} {n n' : Nat} (F : Fr h₀ L s.heap m) (Λ : Led h₀ L s.heap l) (ha : (a, W.listOf vs.toArray n) ∈ l) (hb : (b, W.listOf ws.toArray n') ∈ l) (hz : vs.length + ws.length ≤ 1000)
    (ret : ∀ B s', Same s s' → Fr h₀ L s'.heap m → Led h₀ L s'.heap ((B, W.listOf (vs ++ ws).toArray 0) :: l) → Q (.ref B) s') : wpAny (model PG w) A (binaryOp .Add (.ref a) (.ref b)) Q E s :=
  add_lists F Λ.N ⟨_, Λ.get ha, rfl, _, rfl⟩ ⟨_, Λ.get hb, rfl, _, rfl⟩ (fun h' F' N' => ret _ _ ⟨rfl, rfl, rfl⟩ F' (Λ.cons N' fun p hp => Heap.lt_size (Λ.N p hp).1)) (by rw [sizeLine_eq]; omega)
/-- a Data of the ledger: its trees -/
def DataIn (w : World) (nms : List Str) (R : List (Addr × Obj)) (x : Addr) (ts1 ts2 : List Tr) (fts : List (Str × List Tr)) : Prop :=
  ∃ dx vs tf wl ll fd sl n1 n2 o kvs, (x, instObj 159 dx) ∈ R ∧ (dx, dictOf (entsD w.params tf vs) 6) ∈ R ∧ DataRec vs wl ll fd sl ∧ (wl, W.listOf (refsT ts1).toArray n1) ∈ R ∧ (ll, W.listOf (refsT ts2).toArray n2) ∈ R ∧
    (fd, o) ∈ R ∧ IsD w o kvs ∧ (fd == sysModules) = false ∧ TreesIn w.params nms R ts1 ∧ TreesIn w.params nms R ts2 ∧ FilesIn w.params nms R kvs fts ∧ ts1.length ≤ 2 ∧ ts2.length ≤ 2 ∧ fts.length ≤ 5
def JR (w : World) (nms : List Str) (fn x : Addr) (ts0 : List Tr) (fts : List (Str × List Tr)) (names : List Str) (en : Addr × Obj) (R0 R : List (Addr × Obj)) (i : Nat) (m : Str → Option Value) (l : List (Addr × Obj)) : Prop :=
  ∃ acc n Rn, l = (fn, W.listOf (refsT (ts0 ++ acc)).toArray n) :: (Rn ++ R) ∧ en ∈ Rn ∧ TreesIn w.params nms R0 acc ∧ (∀ t, t ∈ acc ↔ ∃ f ∈ fts, f.1 ∈ names.take i ∧ t ∈ f.2) ∧ acc.length ≤ 2 * i ∧ Has [(Str.ofString "found", .ref fn), (Str.ofString "data", .ref x)] m
set_option maxHeartbeats 2000000 in
theorem roots_c {Q : Value → Shared → Prop} {nms : List Str} {x : Addr} {ts1 ts2 : List Tr} {fts : List (Str × List Tr)} (Γ : Fn w d cs cl A env L h₀) (hd' : d < 800) (F : Fr h₀ L s.heap m) (Λ : Led h₀ L s.heap R) {R0 : List (Addr × Obj)} (hs : ∀ p ∈ R0, p ∈ R) (hD : DataIn w nms R0 x ts1 ts2 fts)
    (ret : ∀ D ts n Rn s', Same s s' → Fr h₀ L s'.heap m → Led h₀ L s'.heap ((D, W.listOf (refsT ts).toArray n) :: (Rn ++ R)) → TreesIn w.params nms R0 ts → (∀ t, t ∈ ts ↔ t ∈ ts1 ∨ t ∈ ts2 ∨ ∃ f ∈ fts, t ∈ f.2) → ts.length ≤ 14 → Q (.ref D) s') :
    wpAny (model PG w) A (call (.ref 177) [.ref x]) Q E s := by
  have X := Γ.X
  have hpg : PG = PySem.Challenge.rw_og0080_01.row.prog := rfl
  revert hpg X; k_fill; intro X hpg
  refine' Γ.enter [(Str.ofString "data", .ref x)] (by omega) F Λ ?b1 ?b2 ?b4 ?b5 ?c1 fun A' env' g L' s₁ m₁ Q' E' e₁ Γ₁ F₁ hm₁ Λ₁ hE fin => ?_
  case b1 => k_is
  case b2 => k_is
  case b4 => rfl
  case b5 => kernel_rfl
  case c1 => kernel_rfl
  have H₁ : Has [(Str.ofString "data", .ref x)] m₁ := Has.nil.cons (hm₁ _ _ rfl)
  obtain ⟨dx, vs, tf, wl, ll, fd, sl, n1, n2, o, kvs, i1, i2, D, i3, i4, i5, i6, lo, hT1, hT2, hF, hl1, hl2, hl3⟩ := hD
  have i1 := hs _ i1
  have i2 := hs _ i2
  have i3 := hs _ i3
  have i4 := hs _ i4
  have i5 := hs _ i5
  have hr1 : (refsT ts1).length = ts1.length := List.length_map _
  have hr2 : (refsT ts2).length = ts2.length := List.length_map _
  have hkl : kvs.length = fts.length := by have := congrArg List.length hF.names; rw [List.length_map, List.length_map] at this; exact this
  -- found = list(data.working) + list(data.linkage)
  refine wpAny_execs_cons (wpAny_Assign_Name (wpAny_BinOp (Γ₁.callT1 F₁ list_boot (Γ₁.attr F₁ Λ₁.N H₁.get i1 i2 D.1 (copy_l F₁ Λ₁ i3 (by omega) fun B1 c1 s₂ e₂ F₂ Λ₂ => ?_)))))
  refine Γ₁.callT1 F₂ list_boot (Γ₁.attr F₂ Λ₂.N H₁.get (.tail _ i1) (.tail _ i2) D.2.1 (copy_l F₂ Λ₂ (.tail _ i4) (by omega) fun B2 c2 s₃ e₃ F₃ Λ₃ => ?_))
  refine cat_l F₃ Λ₃ (.tail _ (.head _)) (.head _) (by omega) fun fn s₄ e₄ F₄ Λ₄ => ?_
  refine Γ₁.st F₄ Λ₄ fun s₅ m₅ e₅ F₅ p₅ Λ₅ => ?_
  have H₅ := p₅.has H₁
  have ecat : refsT ts1 ++ refsT ts2 = refsT ((ts1 ++ ts2) ++ []) := by rw [List.append_nil]; exact List.map_append.symm
  rw [ecat] at Λ₅
  -- for name in sorted(data.files)
  refine wpAny_execs_cons (Γ₁.forI (Γ₁.callB1 F₅ sorted_boot (Γ₁.attr F₅ Λ₅.N H₅.get (.tail _ (.tail _ (.tail _ i1))) (.tail _ (.tail _ (.tail _ i2))) D.2.2.1 (sortedD_l Γ₁.handled F₅ Λ₅ (.tail _ (.tail _ (.tail _ i5))) i6 lo (by omega) fun SB vs' ss' sn s₆ e₆ F₆ Λ₆ hS hp hso => ?_))) hE)
  have hnd : (fts.map (·.1)).Nodup := by rw [← hF.names]; obtain ⟨_, _, _, _, _, _, h⟩ := i6; exact h
  have hsl : vs'.length = ss'.length := hS.length
  have hsl2 : ss'.length = kvs.length := by have := hp.length_eq; rw [List.length_map] at this; exact this
  have Λ₇ : Led g L' s₆.heap ((fn, W.listOf (refsT ((ts1 ++ ts2) ++ [])).toArray 0) :: ([(SB, W.listOf vs'.toArray sn), (B2, W.listOf (refsT ts2).toArray c2), (B1, W.listOf (refsT ts1).toArray c1)] ++ R)) := Λ₆.pulls [1]
  refine ⟨SB, vs', sn, _, _, rfl, .tail _ (.head _), F₆, Λ₇, ?_⟩
  refine Fn.loops (JR w nms fn x (ts1 ++ ts2) fts ss' (SB, W.listOf vs'.toArray sn) R0 R) ⟨[], 0, [(SB, W.listOf vs'.toArray sn), (B2, W.listOf (refsT ts2).toArray c2), (B1, W.listOf (refsT ts1).toArray c1)], rfl, .head _, (fun _ h => nomatch h), (fun t => ⟨(fun h => nomatch h), fun ⟨f, _, h, _⟩ => nomatch h⟩), Nat.le_refl _, H₅⟩ ?_ ?_
  · clear F Λ F₁ Λ₁ F₂ Λ₂ F₃ Λ₃ F₄ Λ₄ F₅ Λ₅ F₆ Λ₆ Λ₇ H₁ H₅ p₅ hm₁
    rintro i v m₁ m₂ l₁ s₇ I ob hi hv ⟨acc, n, Rn, rfl, hen, hTa, hmem, hal, Ag⟩ _ e₇ F₁ p₁ Λ₁
    have H₁ := p₁.has Ag
    have hi2 : i < ss'.length := by omega
    obtain ⟨t, ht⟩ := strs_get hS (List.getElem?_eq_getElem hi2)
    obtain rfl : v = .str ss'[i] t := Option.some.inj (hv.symm.trans ht)
    obtain ⟨ts, a, na, f1, f2, f3, f4, f5⟩ := hF.at (k := ss'[i]) (hp.mem_iff.mp (List.getElem_mem hi2))
    have Λ₂ : Led g L' s₇.heap ((fn, W.listOf (refsT ((ts1 ++ ts2) ++ acc)).toArray n) :: ([(I, ob)] ++ (Rn ++ R))) := Λ₁.pulls [1]
    have hin : ∀ {p}, p ∈ R → p ∈ ((fn, W.listOf (refsT ((ts1 ++ ts2) ++ acc)).toArray n) :: ([(I, ob)] ++ (Rn ++ R))) := fun h => .tail _ (List.mem_append_right [(I, ob)] (List.mem_append_right Rn h))
    have hlen : (refsT ((ts1 ++ ts2) ++ acc)).length = ts1.length + ts2.length + acc.length := by rw [List.length_map, List.length_append, List.length_append]
    have hlen2 : (refsT ts).length = ts.length := List.length_map _
    refine wpAny_execs_cons (wpAny_Expr_any (meth1 PySem.F.slot_list_extend PySem.F.type_list_extend (Γ₁.lcl F₁ H₁.get ⟨fn, _, _, rfl, Λ₂.get (.head _), ?_⟩)) Γ₁.inter rfl)
    refine Subscript_ (Γ₁.attr F₁ Λ₂.N H₁.get (hin i1) (hin i2) D.2.2.1 (Γ₁.lcl F₁ H₁.get (get_l (s := { s₇ with toks := _ }) Λ₂ (hin i5) i6 f2 ?_)))
    refine ext_l (s := { s₇ with toks := _ }) F₁ Λ₂ (List.mem_append_right [(I, ob)] (List.mem_append_right Rn (hs _ f3))) (by omega) (by omega) fun n' s₈ e₈ F₂ Λ₃ => ?_
    have ea : refsT ((ts1 ++ ts2) ++ acc) ++ refsT ts = refsT ((ts1 ++ ts2) ++ (acc ++ ts)) := by rw [← List.append_assoc (ts1 ++ ts2)]; exact List.map_append.symm
    rw [ea] at Λ₃
    refine wpAny_execs_nil ⟨rfl, m₂, (fn, _) :: (Rn ++ R), e₇.trans (Same.trans (s' := { s₇ with toks := _ }) ⟨rfl, rfl, rfl⟩ e₈), F₂, Λ₃.pulls [1], ?_, acc ++ ts, n', Rn, rfl, hen, ?_, ?_, ?_, H₁.sub fun _ h => .tail _ h⟩
    · intro q hq; rw [List.mem_singleton.mp hq]; exact .tail _ (List.mem_append_left _ hen)
    · intro q hq
      rcases List.mem_append.mp hq with hq | hq
      · exact hTa q hq
      · exact f4 q hq
    · intro q
      rw [List.mem_append, hmem, List.take_add_one, List.getElem?_eq_getElem hi2]
      constructor
      · rintro (⟨f, a1, a2, a3⟩ | h)
        · exact ⟨f, a1, List.mem_append_left _ a2, a3⟩
        · exact ⟨_, f1, List.mem_append_right _ (.head _), h⟩
      · rintro ⟨f, a1, a2, a3⟩
        rcases List.mem_append.mp a2 with a2 | a2
        · exact .inl ⟨f, a1, a2, a3⟩
        · have : f = (ss'[i], ts) := uniq_fst hnd a1 f1 (List.mem_singleton.mp a2)
          rw [this] at a3; exact .inr a3
    · rw [List.length_append]; omega
  · rintro s₇ m₁ l₁ ⟨acc, n, Rn, rfl, hen, hTa, hmem, hal, Ag⟩ _ e₇ F₇ Λ₈
    refine wpAny_execs_cons (wpAny_Return_some (Γ₁.lcl F₇ Ag.get ?_))
    refine fin _ (.ref fn) _ _ _ (.inl rfl) F₇ Λ₈ fun F₈ Λ₉ => ?_
    refine ret fn ((ts1 ++ ts2) ++ acc) n Rn _ (e₁.trans (Same.trans e₂ (Same.trans e₃ (e₄.trans (e₅.trans (Same.trans e₆ e₇)))))) F₈ Λ₉ ?_ (fun t => ?_) ?_
    · intro q hq
      rcases List.mem_append.mp hq with hq | hq
      · rcases List.mem_append.mp hq with hq | hq
        · exact hT1 q hq
        · exact hT2 q hq
      · exact hTa q hq
    · rw [List.mem_append, List.mem_append, hmem, or_assoc]
      refine or_congr_right (or_congr_right ⟨fun ⟨f, a, _, b⟩ => ⟨f, a, b⟩, fun ⟨f, a, b⟩ => ⟨f, a, ?_, b⟩⟩)
      rw [List.take_of_length_le (by omega)]
      exact hp.mem_iff.mpr (by rw [hF.names]; exact List.mem_map.mpr ⟨f, a, rfl⟩)
    · rw [List.length_append, List.length_append]; omega
end
end Mine
end
section
open PySem PySem.W PySem.Calls PyProof.Rows
namespace Mine
theorem len_le_of_sub : ∀ {l m : List Str}, l.Nodup → (∀ z ∈ l, z ∈ m) → l.length ≤ m.length
  | [], _, _, _ => Nat.zero_le _
  | x :: r, m, hd, h => by
    rw [List.nodup_cons] at hd
    have hx := h x (.head _)
    have := len_le_of_sub (m := m.erase x) hd.2 fun z hz => (List.mem_erase_of_ne fun (e : z = x) => hd.1 (e ▸ hz)).mpr (h z (.tail _ hz))
    rw [List.length_erase_of_mem hx] at this
    have := List.length_pos_of_mem hx
    rw [List.length_cons]; omega
theorem names_stored {k z : Str} {v : Value} {kvs : List (Str × Value)} : z ∈ (stored kvs k v).map (·.1) ↔ z ∈ kvs.map (·.1) ∨ z = k := by
  unfold stored
  by_cases h : (kvs.any fun kv => kv.1 = k) = true
  · rw [if_pos h]
    have e : (kvs.map fun kv => if kv.1 = k then (kv.1, v) else kv).map (·.1) = kvs.map (·.1) := by
      rw [List.map_map]
      refine List.map_congr_left fun q _ => ?_
      show (if q.1 = k then (q.1, v) else q).1 = q.1
      split <;> rfl
    rw [e]
    refine ⟨.inl, fun hz => hz.elim id fun hz => ?_⟩
    obtain ⟨q, hq, hk⟩ := List.any_eq_true.mp h
    rw [hz, ← of_decide_eq_true hk]
    exact List.mem_map.mpr ⟨q, hq, rfl⟩
  · rw [if_neg h, List.map_append, List.mem_append]
    exact or_congr_right (by simp)
theorem all_stored {k : Str} {v : Value} {kvs : List (Str × Value)} (h : ∀ q ∈ kvs, q.2 = v) : ∀ q ∈ stored kvs k v, q.2 = v := by
  intro q hq
  unfold stored at hq
  split at hq
  · obtain ⟨p, hp, rfl⟩ := List.mem_map.mp hq
    split
    · rfl
    · exact h p hp
  · rcases List.mem_append.mp hq with hq | hq
    · exact h q hq
    · rw [List.mem_singleton.mp hq]
theorem NamedsIn.at {P : Params} {R : List (Addr × Obj)} : ∀ {as : List Addr} {zs : List Str} {i : Nat} {a : Addr}, NamedsIn P R as zs → as[i]? = some a → ∃ z, zs[i]? = some z ∧ ∃ dx vs tf, (a, instObj 86 dx) ∈ R ∧ (dx, dictOf (entsD P tf vs) 2) ∈ R ∧ NamedRec vs z
  | _ :: _, z :: _, 0, _, ⟨h, _⟩, e => by cases e; exact ⟨z, rfl, h⟩
  | _ :: _, _ :: _, i + 1, _, ⟨_, h⟩, e => h.at (i := i) e
theorem FoIn.at {P : Params} {R : List (Addr × Obj)} {wt : Addr → List Str} {b : Addr} : ∀ {f : Fo}, FoIn P R wt f → b ∈ f.pre → ∃ kids, ItemAt P R b kids (wt b)
  | .cons x k r, ⟨a, h1, h2⟩, hb => by
    rcases List.mem_cons.mp hb with rfl | hb
    · exact ⟨_, a⟩
    · rcases List.mem_append.mp hb with hb | hb
      · exact h1.at hb
      · exact h2.at hb
theorem perm_turn {α : Type} (x y : α) (q a b : List α) : (q ++ (x :: y :: (a ++ b))).Perm (y :: ((q ++ a) ++ x :: b)) := by
  refine (List.perm_middle.trans ((List.perm_middle (l₁ := q)).cons x)).trans ((List.Perm.swap y x _).trans (.cons y ?_))
  rw [List.append_assoc]
  exact perm_in x q a b
/-- what stands in the loops of condition_names -/
def JC (w : World) (fd : Addr) (S : Str → Prop) (ens : List (Addr × Obj)) (R : List (Addr × Obj)) (m : Str → Option Value) (l : List (Addr × Obj)) : Prop :=
  ∃ o kvs Rn, l = (fd, o) :: (Rn ++ R) ∧ IsD w o kvs ∧ (∀ q ∈ kvs, q.2 = .bool true) ∧ (∀ z, z ∈ kvs.map (·.1) ↔ S z) ∧ (∀ e ∈ ens, e ∈ Rn) ∧ Has [(Str.ofString "found", .ref fd)] m
section
variable {w : World} {d : Nat} {cs : Scope} {cl : List (Str × Addr)} {A : Around} {env : Env} {L : Addr} {h₀ : Heap} {m : Str → Option Value} {R l : List (Addr × Obj)} {s : Shared} {E : Value → Shared → Prop}
theorem newDict_l {Q : Value → Shared → Prop} {pos : Pos} (Γ : Fn w d cs cl A env L h₀) (F : Fr h₀ L s.heap m) (Λ : Led h₀ L s.heap l)
    (ret : ∀ q o s', Same s s' → Fr h₀ L s'.heap m → Led h₀ L s'.heap ((q, o) :: l) → (∀ p ∈ l, p.1 < q) → IsD w o [] → (q == sysModules) = false → Q (.ref q) s') : wpAny (model PG w) A (eval (.Dict [] [] pos) env) Q E s := by
  obtain ⟨_, _, _, _, _, _, _, _, rfl, c, _⟩ := Γ
  obtain ⟨_, _, _, _, _, _, _, _, _, T, _⟩ := c
  exact newDict_K (prog := PG) (w := w) F Λ.N (TopRead.nolimit (topRead_of T)) fun q h' o F' N' l1 lo hi _ _ _ => ret q o _ ⟨rfl, rfl, rfl⟩ F' (Λ.cons N' l1) l1 hi lo
set_option maxHeartbeats 2000000 in
theorem cond_c {Q : Value → Shared → Prop} {nms : List Str} {x : Addr} {ts1 ts2 : List Tr} {fts : List (Str × List Tr)} (Γ : Fn w d cs cl A env L h₀) (hd' : d < 700) (F : Fr h₀ L s.heap m) (Λ : Led h₀ L s.heap R) (hN : nms.length ≤ 5) (hD : DataIn w nms R x ts1 ts2 fts)
    (ret : ∀ D o kvs Rn s', Same s s' → Fr h₀ L s'.heap m → Led h₀ L s'.heap ((D, o) :: (Rn ++ R)) → IsD w o kvs → (D == sysModules) = false → (∀ q ∈ kvs, q.2 = .bool true) → (∀ z, z ∈ kvs.map (·.1) ↔ ∃ t : Tr, (t ∈ ts1 ∨ t ∈ ts2 ∨ ∃ f ∈ fts, t ∈ f.2) ∧ z ∈ t.2.2) → kvs.length ≤ 5 → (∀ z ∈ kvs.map (·.1), z ∈ nms) → Q (.ref D) s') :
    wpAny (model PG w) A (call (.ref 184) [.ref x]) Q E s := by
  have X := Γ.X
  have hpg : PG = PySem.Challenge.rw_og0080_01.row.prog := rfl
  revert hpg X; k_fill; intro X hpg
  refine' Γ.enter [(Str.ofString "data", .ref x)] (by omega) F Λ ?b1 ?b2 ?b4 ?b5 ?c1 fun A' env' g L' s₁ m₁ Q' E' e₁ Γ₁ F₁ hm₁ Λ₁ hE fin => ?_
  case b1 => k_is
  case b2 => k_is
  case b4 => rfl
  case b5 => kernel_rfl
  case c1 => kernel_rfl
  have H₁ : Has [(Str.ofString "data", .ref x)] m₁ := Has.nil.cons (hm₁ _ _ rfl)
  -- found = {}
  refine wpAny_execs_cons (wpAny_Assign_Name (newDict_l Γ₁ F₁ Λ₁ fun fd o s₂ e₂ F₂ Λ₂ hlt hd lo => ?_))
  refine Γ₁.st F₂ Λ₂ fun s₃ m₃ e₃ F₃ p₃ Λ₃ => ?_
  have H₃ := p₃.has H₁
  -- for root in record_roots(data)
  refine wpAny_execs_cons (Γ₁.forI (Γ₁.callK F₃ (.ref 177) (spliced_more (Γ₁.lcl F₃ H₃.get (spliced_none ⟨⟨_, F₃⟩, roots_c Γ₁ (by omega) F₃ Λ₃ (fun p h => .tail _ h) hD fun RB ts nB Rn s₄ e₄ F₄ Λ₄ hTs hmem hlen => ?_⟩)))) hE)
  have hrl : (refsT ts).length = ts.length := List.length_map _
  have hNam : ∀ t ∈ ts, ∀ z ∈ t.2.2, z ∈ nms := fun t ht => by
    obtain ⟨_, _, _, _, _, _, _, h⟩ := hTs t ht
    exact h
  have hlk : ∀ {kvs : List (Str × Value)} {o : Obj} {S : Str → Prop}, IsD w o kvs → (∀ z, z ∈ kvs.map (·.1) ↔ S z) → (∀ z, S z → z ∈ nms) → kvs.length ≤ 5 := fun {kvs o S} hd hk hS => by
    obtain ⟨_, _, _, _, _, _, hnd⟩ := hd
    have := len_le_of_sub (m := nms) hnd fun z hz => hS z ((hk z).mp hz)
    rw [List.length_map] at this
    exact Nat.le_trans this hN
  have Λ₅ : Led g L' s₄.heap ((fd, o) :: (((RB, W.listOf (refsT ts).toArray nB) :: Rn) ++ R)) := Λ₄.perm (List.perm_middle (l₁ := _ :: Rn))
  refine ⟨RB, refsT ts, nB, m₃, _, rfl, .tail _ (.head _), F₄, Λ₅, ?_⟩
  refine Fn.loops (fun i => JC w fd (fun z => ∃ t ∈ ts.take i, z ∈ t.2.2) [(RB, W.listOf (refsT ts).toArray nB)] R) ⟨o, [], (RB, W.listOf (refsT ts).toArray nB) :: Rn, rfl, hd, (fun _ h => nomatch h), (fun z => ⟨(fun h => nomatch h), fun ⟨t, h, _⟩ => nomatch h⟩), (fun e he => by rw [List.mem_singleton.mp he]; exact .head _), H₃.sub fun q hq => by rw [List.mem_singleton.mp hq]; exact .head _⟩ ?_ ?_
  · clear F Λ F₁ Λ₁ F₂ Λ₂ F₃ Λ₃ F₄ Λ₄ Λ₅ H₁ H₃ p₃ hm₁ hd hlt hmem
    rintro i v m₁ m₂ l₁ s₅ I ob hi hv ⟨o, kvs, Rn, rfl, hd, hv1, hk, hen, Ag⟩ _ e₅ F₅ p₅ Λ₅
    have H₅ := p₅.has Ag
    have hi2 : i < ts.length := by omega
    have hv2 : v = .ref ts[i].1 := by rw [List.getElem?_map, List.getElem?_eq_getElem hi2] at hv; exact (Option.some.inj hv).symm
    subst hv2
    obtain ⟨f, wt, hF, hpl, _, _, hzs, hsub⟩ := hTs ts[i] (List.getElem_mem hi2)
    -- for item in items_under(root)
    have hF2 : FoIn w.params ((I, ob) :: (fd, o) :: (Rn ++ R)) wt (.cons ts[i].1 f .nil) := hF.mono fun p h => .tail _ (.tail _ (List.mem_append_right _ h))
    refine wpAny_execs_cons (Γ₁.forI (Γ₁.callK F₅ (.ref 170) (spliced_more (Γ₁.lcl F₅ H₅.get (spliced_none ⟨⟨_, F₅⟩, items_c Γ₁ (by omega) F₅ Λ₅ hF2 (by omega) fun D nD Rn2 s₆ e₆ F₆ Λ₆ => ?_⟩)))) hE)
    have Λ₇ : Led g L' s₆.heap ((fd, o) :: (((((D, W.listOf ((Fo.cons ts[i].1 f .nil).pre.map Value.ref).toArray nD) :: Rn2) ++ Rn) ++ (I, ob) :: R))) := Λ₆.perm (perm_turn (I, ob) (fd, o) (_ :: Rn2) Rn R)
    have hpl2 : ((Fo.cons ts[i].1 f .nil).pre.map Value.ref).length = (Fo.cons ts[i].1 f .nil).pre.length := List.length_map _
    refine ⟨D, _, nD, m₂, _, rfl, .tail _ (.head _), F₆, Λ₇, ?_⟩
    refine Fn.loops (fun j => JC w fd (fun z => (∃ t ∈ ts.take i, z ∈ t.2.2) ∨ ∃ b ∈ (Fo.cons ts[i].1 f .nil).pre.take j, z ∈ wt b) [(D, W.listOf ((Fo.cons ts[i].1 f .nil).pre.map Value.ref).toArray nD), (RB, W.listOf (refsT ts).toArray nB)] ((I, ob) :: R)) ⟨o, kvs, ((D, W.listOf ((Fo.cons ts[i].1 f .nil).pre.map Value.ref).toArray nD) :: Rn2) ++ Rn, rfl, hd, hv1, (fun z => (hk z).trans ⟨.inl, fun h => h.elim id fun ⟨b, h, _⟩ => nomatch h⟩), (fun e he => ?_), H₅.sub fun q hq => by rw [List.mem_singleton.mp hq]; exact .tail _ (.head _)⟩ ?_ ?_
    · rcases List.mem_cons.mp he with rfl | he
      · exact .head _
      · rw [List.mem_singleton.mp he]; exact .tail _ (List.mem_append_right _ (hen _ (.head _)))
    · clear F₅ Λ₅ F₆ Λ₆ Λ₇ hF2 H₅ p₅ hd hk hv hv1 Ag hen
      rintro j v m₃ m₄ l₂ s₇ I2 ob2 hj hv ⟨o, kvs, Rn, rfl, hd, hv1, hk, hen, Ag⟩ _ e₇ F₇ p₇ Λ₇
      have H₇ := p₇.has Ag
      have hj2 : j < (Fo.cons ts[i].1 f .nil).pre.length := by omega
      have hv2 : v = .ref (Fo.cons ts[i].1 f .nil).pre[j] := by rw [List.getElem?_map, List.getElem?_eq_getElem hj2] at hv; exact (Option.some.inj hv).symm
      subst hv2
      have hb := List.getElem_mem hj2
      have hb2 : (Fo.cons ts[i].1 f .nil).pre[j]? = some (Fo.cons ts[i].1 f .nil).pre[j] := List.getElem?_eq_getElem hj2
      generalize (Fo.cons ts[i].1 f .nil).pre[j] = b at hb hb2 H₇ p₇ hv
      obtain ⟨kids, dx, vs, tf, nm, c, kk, nk, nc, cs', a1, a2, a3, a4, a5, a6⟩ := hF.at hb
      have hcl : (cs'.map Value.ref).length = cs'.length := List.length_map _
      have hcz := a6.len
      have hR : ∀ {p}, p ∈ R → p ∈ (I2, ob2) :: (fd, o) :: (Rn ++ (I, ob) :: R) := fun h => .tail _ (.tail _ (List.mem_append_right _ (.tail _ h)))
      have Λ₈ : Led g L' s₇.heap ((fd, o) :: (Rn ++ (I2, ob2) :: (I, ob) :: R)) := Λ₇.perm (perm_turn (I2, ob2) (fd, o) [] Rn ((I, ob) :: R))
      -- for named in item.conditions
      refine wpAny_execs_cons (Γ₁.forI (Γ₁.attr (x' := b) (C := 133) (dx := dx) (tf := tf) (n := 19) F₇ Λ₇.N H₇.get (hR a1) (hR a2) a3.2.1 ?_) hE)
      refine ⟨c, cs'.map Value.ref, nc, m₄, _, rfl, ?_, F₇, Λ₈, ?_⟩
      · exact .tail _ (List.mem_append_right _ (.tail _ (.tail _ a5)))
      refine Fn.loops (fun k => JC w fd (fun z => ((∃ t ∈ ts.take i, z ∈ t.2.2) ∨ ∃ b ∈ (Fo.cons ts[i].1 f .nil).pre.take j, z ∈ wt b) ∨ z ∈ (wt b).take k) [(D, W.listOf ((Fo.cons ts[i].1 f .nil).pre.map Value.ref).toArray nD), (RB, W.listOf (refsT ts).toArray nB)] ((I2, ob2) :: (I, ob) :: R)) ⟨o, kvs, Rn, rfl, hd, hv1, (fun z => (hk z).trans ⟨.inl, fun h => h.elim id fun h => nomatch h⟩), hen, H₇.sub fun q hq => by rw [List.mem_singleton.mp hq]; exact .tail _ (.head _)⟩ ?_ ?_
      · clear F₇ Λ₇ Λ₈ H₇ p₇ hd hk hv hv1 Ag hen hR
        rintro k v m₅ m₆ l₃ s₈ I3 ob3 hk3 hv ⟨o, kvs, Rn, rfl, hd, hv1, hk, hen, Ag⟩ _ e₈ F₈ p₈ Λ₈
        have H₈ := p₈.has Ag
        have hk4 : k < cs'.length := by omega
        have hv2 : v = .ref cs'[k] := by rw [List.getElem?_map, List.getElem?_eq_getElem hk4] at hv; exact (Option.some.inj hv).symm
        subst hv2
        obtain ⟨z, hz, dx2, vs2, tf2, b1, b2, ⟨tz, b3⟩, b4⟩ := a6.at (List.getElem?_eq_getElem hk4)
        have hR : ∀ {p}, p ∈ R → p ∈ (fd, o) :: ([(I3, ob3)] ++ (Rn ++ (I2, ob2) :: (I, ob) :: R)) := fun h => .tail _ (List.mem_append_right _ (List.mem_append_right _ (.tail _ (.tail _ h))))
        have Λ₉ : Led g L' s₈.heap ((fd, o) :: ([(I3, ob3)] ++ (Rn ++ (I2, ob2) :: (I, ob) :: R))) := Λ₈.pulls [1]
        have hS : ∀ z, ((∃ t ∈ ts.take i, z ∈ t.2.2) ∨ ∃ b ∈ (Fo.cons ts[i].1 f .nil).pre.take j, z ∈ wt b) ∨ z ∈ (wt b).take k → z ∈ nms := fun z h => by
          rcases h with (⟨t, h1, h2⟩ | ⟨b', h1, h2⟩) | h
          · exact hNam t (List.mem_of_mem_take h1) z h2
          · exact hsub z ((hzs z).mpr ⟨b', List.mem_of_mem_take h1, h2⟩)
          · exact hsub z ((hzs z).mpr ⟨b, hb, List.mem_of_mem_take h⟩)
        -- found[named.name] = True
        refine wpAny_execs_cons (wpAny_Assign_Subscript (wpAny_Constant_bool (Γ₁.lcl F₈ H₈.get (Γ₁.attr (C := 86) F₈ Λ₉.N H₈.get (hR b1) (hR b2) b3 ?_))))
        refine put_l (s := { s₈ with toks := _ }) F₈ Λ₉ hd (by have := hlk hd hk hS; omega) fun o' s₉ e₉ F₉ Λ₁₀ hd' => ?_
        refine wpAny_execs_nil ⟨rfl, m₆, (fd, o') :: (Rn ++ (I2, ob2) :: (I, ob) :: R), e₈.trans (Same.trans (s' := { s₈ with toks := _ }) ⟨rfl, rfl, rfl⟩ e₉), F₉, Λ₁₀.pulls [1], ?_, o', _, Rn, rfl, hd', all_stored hv1, (fun q => ?_), hen, H₈.sub fun _ h => .tail _ h⟩
        · intro q hq; rw [List.mem_singleton.mp hq]; exact .tail _ (List.mem_append_right _ (.tail _ (.tail _ a5)))
        · rw [names_stored, hk, List.take_add_one, hz]
          simp [or_assoc]
      · rintro s₈ m₅ l₃ ⟨o, kvs, Rn, rfl, hd, hv1, hk, hen, Ag⟩ _ e₈ F₈ Λ₉
        refine wpAny_execs_nil ⟨rfl, m₅, (fd, o) :: (Rn ++ (I, ob) :: R), e₇.trans (Same.trans (s' := { s₇ with toks := _ }) ⟨rfl, rfl, rfl⟩ e₈), F₈, Λ₉.perm (List.perm_middle (l₁ := _ :: Rn)), ?_, o, kvs, Rn, rfl, hd, hv1, (fun z => ?_), hen, Ag⟩
        · intro q hq; rw [List.mem_singleton.mp hq]; exact .tail _ (List.mem_append_left _ (hen _ (.head _)))
        · rw [hk, hcl, hcz, List.take_length, List.take_add_one, hb2]
          constructor
          · rintro ((h | ⟨b', h1, h2⟩) | h)
            · exact .inl h
            · exact .inr ⟨b', List.mem_append_left _ h1, h2⟩
            · exact .inr ⟨b, List.mem_append_right _ (.head _), h⟩
          · rintro (h | ⟨b', h1, h2⟩)
            · exact .inl (.inl h)
            · rcases List.mem_append.mp h1 with h1 | h1
              · exact .inl (.inr ⟨b', h1, h2⟩)
              · rw [List.mem_singleton.mp h1] at h2; exact .inr h2
    · rintro s₇ m₃ l₂ ⟨o, kvs, Rn, rfl, hd, hv1, hk, hen, Ag⟩ _ e₇ F₇ Λ₈
      refine wpAny_execs_nil ⟨rfl, m₃, (fd, o) :: (Rn ++ R), e₅.trans (e₆.trans e₇), F₇, Λ₈.perm (List.perm_middle (l₁ := _ :: Rn)), ?_, o, kvs, Rn, rfl, hd, hv1, (fun z => ?_), fun e he => hen e (.tail _ he), Ag⟩
      · intro q hq; rw [List.mem_singleton.mp hq]; exact .tail _ (List.mem_append_left _ (hen _ (.tail _ (.head _))))
      · rw [hk, hpl2, List.take_length, List.take_add_one, List.getElem?_eq_getElem hi2]
        show (_ ∨ ∃ b ∈ (Fo.cons ts[i].1 f .nil).pre, z ∈ wt b) ↔ _
        rw [← hzs]
        constructor
        · rintro (⟨t, h1, h2⟩ | h)
          · exact ⟨t, List.mem_append_left _ h1, h2⟩
          · exact ⟨_, List.mem_append_right _ (.head _), h⟩
        · rintro ⟨t, h1, h2⟩
          rcases List.mem_append.mp h1 with h1 | h1
          · exact .inl ⟨t, h1, h2⟩
          · rw [List.mem_singleton.mp h1] at h2; exact .inr h2
  · rintro s₅ m₁ l₁ ⟨o, kvs, Rn, rfl, hd, hv, hk, hen, Ag⟩ _ e₅ F₅ Λ₆
    have hk' : ∀ z, z ∈ kvs.map (·.1) ↔ ∃ t ∈ ts, z ∈ t.2.2 := by rw [hrl, List.take_length] at hk; exact hk
    refine wpAny_execs_cons (wpAny_Return_some (Γ₁.lcl F₅ Ag.get ?_))
    refine fin _ (.ref fd) _ _ _ (.inl rfl) F₅ Λ₆ fun F₇ Λ₇ => ?_
    refine ret fd o kvs Rn _ (e₁.trans (e₂.trans (e₃.trans (e₄.trans e₅)))) F₇ Λ₇ hd lo hv (fun z => ?_) (hlk hd hk' fun z ⟨t, h1, h2⟩ => hNam t h1 z h2) fun z hz => ?_
    · rw [hk']
      exact exists_congr fun t => and_congr_left' (hmem t)
    · obtain ⟨t, h1, h2⟩ := (hk' z).mp hz
      exact hNam t h1 z h2
end
end Mine
end
section
open PySem PySem.W PySem.Calls PyProof.Rows
open Sem (wp)
namespace Mine
abbrev excObj (C t : Addr) : Obj := { cls := .ref C, data := .fields #[.ref t, .none, .none, .none, .bool false, .none] }
/-- an exception class of the text's whose bases end in a builtin one -/
structure ExcCls (h : Heap) (C : Addr) (bm : List Value) (newId : String) : Prop where
  obj : ∃ nm q N bs hdct sn sub ab col dd k0 k1 k2 k3 k5, h.get? C = some (excClassObj nm q C N bs bm hdct sn sub ab col dd k0 k1 k2 k3 k5 newId)
section
variable {M : Model} {A : Around} {E : Value → Shared → Prop} {h : Heap} {g : Array GenState} {d : Drawn} {t : Nat} {os : OsState}
variable {nm q : Str} {C N : Addr} {bs bm bmB : List Value} {hdct : Bool} {sn : List Str} {sub : List Value} {ab : Bool} {col : Option Bool} {dd : Option Addr} {k0 k1 k2 k3 k5 : Option Value} {B newId initId : String}
theorem exc_check_new (F : ExcBaseFacts B newId initId bmB) (hb : bm.contains (.type B) = true) {rest : List Value} {Q : Unit → Shared → Prop} (hC : h.get? C = some (excClassObj nm q C N bs bm hdct sn sub ab col dd k0 k1 k2 k3 k5 newId))
    (hq : Q () ⟨h, g, d, t, os⟩) : wpAny M A (checkBuiltinCall newId ⟨.ref C :: rest, []⟩) Q E ⟨h, g, d, t, os⟩ := by
  have hcont : (Value.ref C :: bm).contains (.type B) = true := by rw [List.contains_cons, hb, Bool.or_true]
  have hstar := F.noStar
  simp only [checkBuiltinCall, F.newKind, F.newSplit, F.newRow]
  repeat (first | refine wpAny_loadPart_at hC ?_ | (refine wpAny_isSubtype_exc hC ?_; rw [hcont]) | refine wpAny_staticBase_exc hC ?_ | refine wpAny_madeBy_exc hC ?_ | simp only [bne_self_eq_false, Bool.false_eq_true, if_false] | wp_step)
  exact hq
end
section
variable {prog : Program} {w : World} {A : Around} {R : Result → Shared → Prop} {h : Heap} {g : Array GenState} {d : Drawn} {t : Nat} {os : OsState}
variable {nm q : Str} {C N : Addr} {bs bm bmB : List Value} {hdct : Bool} {sn : List Str} {sub : List Value} {ab : Bool} {col : Option Bool} {dd : Option Addr} {k0 k1 k2 k3 k5 : Option Value} {B newId initId : String}
theorem exc_new (F : ExcBaseFacts B newId initId bmB) (hb : bm.contains (.type B) = true) (hA : bm.contains (.type "AttributeError") = false) (hN : bm.contains (.type "NameError") = false) {rest : List Value} (hC : h.get? C = some (excClassObj nm q C N bs bm hdct sn sub ab col dd k0 k1 k2 k3 k5 newId))
    (hq : R (.ok (.ret (.ref (h.objs.size + 1)))) ⟨(h.push (tupOf rest)).push (excObj C h.objs.size), g, d, t, os⟩) (hrest : rest.length ≤ sizeLine) :
    codeAny (model prog w) A (.builtin newId ⟨.ref C :: rest, []⟩) R ⟨h, g, d, t, os⟩ := by
  have hends := F.ends
  have hcB : (Value.ref C :: bm).contains (.type B) = true := by rw [List.contains_cons, hb, Bool.or_true]
  have hcA : (Value.ref C :: bm).contains (.type "AttributeError") = false := by rw [List.contains_cons, hA]; rfl
  have hcN : (Value.ref C :: bm).contains (.type "NameError") = false := by rw [List.contains_cons, hN]; rfl
  refine codeAny_builtinAt F.entry ?_
  unfold Builtin.«BaseException.__new__»
  refine PySem.wpAt_bind ?_
  show PySem.wpAt _ _ _ (stack >>= _) _ _ _
  refine PySem.wpAt_bind (PySem.wpAt_stack fun p below => PySem.wpAt_of_wpAny ?_)
  wp_walk
  refine PySem.wpAt_of_wpAny ?_
  rw [F.owner]
  repeat (first | with_reducible refine wpAny_madeHere_exc F.canon hC ?_ | with_reducible refine wpAny_loadPart_at hC ?_ | (with_reducible refine wpAny_isSubtype_exc hC ?_; first | rw [hcB] | rw [hcA] | rw [hcN]) | wp_step)
  show R _ _
  rw [Heap.size_push]
  exact hq
/-- C(..): the new exception, then the __init__ of the text's -/
theorem exc_core (F : ExcBaseFacts B newId initId bmB) (hb : bm.contains (.type B) = true) (hA : bm.contains (.type "AttributeError") = false) (hN : bm.contains (.type "NameError") = false) {rest : List Value} {fI : Addr}
    (hC : h.get? C = some (excClassObj nm q C N bs bm hdct sn sub ab col dd k0 k1 k2 k3 k5 newId)) (hrest : rest.length ≤ sizeLine)
    (hi : Looks (model prog w) h (typeLookup (.ref C) "__init__") (some (.ref fI))) (hbd : ∀ self, Looks (model prog w) h (bindSpecial (.ref fI) self) (.ref fI, [self]))
    (hq : codeAny (model prog w) (A.under (.builtin "type.__call__" ⟨.ref C :: rest, []⟩)) (.call (.ref fI) ⟨.ref (h.objs.size + 1) :: rest, []⟩) (InitBack (h.objs.size + 1) R) ⟨(h.push (tupOf rest)).push (excObj C h.objs.size), g, d, t, os⟩) :
    codeAny (model prog w) A (.call (.ref C) ⟨rest, []⟩) R ⟨h, g, d, t, os⟩ := by
  have f1 := tc_lookup
  have f2 := tc_bind (.ref C)
  have hT : (⟨h, g, d, t, os⟩ : Shared).TypeIs (.ref C) "type" := ⟨_, hC, rfl⟩
  refine codeAny_of_tree ?_
  show wpAny _ _ (callAny (.ref C) _) _ _ _
  repeat (any_goals (first | assumption | with_reducible refine wpAny_loadPart_at hC ?_ | wp_step))
  refine ⟨rfl, ?_⟩
  refine codeAny_call_builtin_at (Code.quiet_builtin _ (by decide +kernel)) entry_typeCall (wpAny_check_type_call_sub hC ?_)
  repeat (first | with_reducible refine wpAny_loadPart_at hC ?_ | with_reducible refine wpAny_madeBy_exc hC ?_ | wp_step)
  refine codeAny_call_builtin_code (Code.quiet_builtin _ F.quiet) (exc_check_new F hb hC ?_)
  refine exc_new F hb hA hN hC ?_ hrest
  show wpAny _ _ _ _ _ _
  have k : ∀ b o, h.get? b = some o → ((h.push (tupOf rest)).push (excObj C h.objs.size)).get? b = some o := fun b o e => Heap.get?_push_of_some _ (Heap.get?_push_of_some _ e)
  have hget : ((h.push (tupOf rest)).push (excObj C h.objs.size)).get? (h.objs.size + 1) = some (excObj C h.objs.size) := by heap_get
  have hC₁ := k _ _ hC
  have hcC : (Value.ref C :: bm).contains (.ref C) = true := by simp
  have t1 : Looks (model prog w) ((h.push (tupOf rest)).push (excObj C h.objs.size)) (typeOf (.ref (h.objs.size + 1))) (.ref C) := (Looks.ld hget).andThen .now
  have i1 := hi.keeps k
  have b1 := (hbd (.ref (h.objs.size + 1))).keeps k
  unfold isInstance
  repeat (first | with_reducible refine wpAny_loadPart_at hget ?_ | (refine wpAny_isSubtype_exc (C := C) hC₁ ?_; rw [hcC]) | wp_step)
  refine i1.here ?_
  dsimp only
  refine wpAny_holding (wpAny_bind ?_)
  refine b1.here ?_
  dsimp only
  refine wpAny_bind (wpAny_call (codeAny_mono hq fun r s' z => ?_))
  rcases r with e | (v | _ | _ | _) <;> first | exact z | exact z.elim | skip
  obtain ⟨rfl, z⟩ := z
  exact wpAny_pure (wpAny_pure z)
end
end Mine
end
section
open PySem PySem.W PySem.Calls PyProof.Rows Builtin Builtin.ObjectAttr
namespace Mine
section
variable {prog : Program} {w : World} {A : Around} {K : Frag} {C x : Addr} {s : Shared} {R : Result → Shared → Prop}
theorem osa_x {ox : Obj} {od : Option Obj} {name : Str} {tk : Tok} {v : Value} {cd : ClassData} (X : K.In s.heap) (I : InstAt s.heap x ox C od) (hc : clsIn K C = some cd) (hp : refuseLoop (.ref x) "__setattr__" cd.mro = pure ()) (hne : cd.mro.isEmpty = false)
    (hcon : cd.mro.contains (.type "object") = true) (ht : takerIn K C name = some none)
    (h : ∀ b, wpAny (model prog w) A.in1 (storeInOwnDict (.ref x) (.ref C) (.str name tk) name v b)
      (fun fin s' => match fin with | .done f => R (.ok f) s' | .again c' => c'.quiet = true ∧ codeAny (model prog w) A c' R s') (fun e s' => R (.error e) s') s) :
    codeAny (model prog w) A (.call (.builtin "object.__setattr__") ⟨[.ref x, .str name tk, v], []⟩) R s := by
  have SF := PySem.F.store_object
  have sub : Looks (model prog w) s.heap (isInstance (.ref x) (.type "object")) true := I.type.andThen (looks_mroIn X (by unfold mroIn; rw [hc, Option.bind_some, if_neg (by rw [hne]; decide), hcon]))
  refine codeAny_call_builtin SF.slot.plain SF.entry (@check_slot (model prog w) _ _ s "object.__setattr__" "object" "__setattr__" (.ref x) [.str name tk, v] [] _ SF.kind SF.split sub (SF.args (.ref x) (.str name tk) v) ?_)
  obtain ⟨attr, ha, hr⟩ := Option.bind_eq_some_iff.mp ht
  have hm : Looks (model prog w) s.heap (mroOf (.ref C)) cd.mro := (looks_clsIn X hc).andThen .now
  have L3 : Looks (model prog w) s.heap (storeTaker? attr) none := by
    cases attr with
    | none => exact .now
    | some a =>
      obtain ⟨b, hb, hbr⟩ := Option.map_eq_some_iff.mp hr
      refine (looks_takesIn X hb).andThen ?_
      cases b
      · exact .now
      · cases hbr
  rw [osa_eq, refuse_eq]
  refine wpAny_bind (wpAny_bind (I.type.here (wpAny_bind (hm.here ?_))))
  rw [hp]
  refine wpAny_pure (wpAny_bind (I.type.here (wpAny_bind ((looks_findIn X ha).here (wpAny_bind (L3.here ?_))))))
  exact h _
theorem refuse_exc (self : Value) : refuseLoop self "__setattr__" [.ref 60, .ref 47, .type "Exception", .type "BaseException", .type "object"] = pure () := by
  rw [refuseLoop_ref, refuseLoop_ref]
  exact PySem.F.store_Exception.passes self
end
section
variable {prog : Program} {w : World} {A : Around} {E : Value → Shared → Prop} {K : Frag} {C x : Addr} {s : Shared} {h₀ : Heap} {L dx : Addr} {m : Str → Option Value} {l : List (Addr × Obj)} {oe od : Obj} {cd : ClassData}
/-- the first attribute of an exception: its dict is made -/
theorem store_first {Q : Fin → Shared → Prop} {name : Str} {tk : Tok} {v : Value} {b : Bool} (F : Fr h₀ L s.heap m) (X : K.In s.heap) (Λ : Led h₀ L s.heap ((x, oe) :: l)) (hcls : oe.cls = .ref C) (hdn : oe.dict = none) (hf : ∃ vs, oe.data = .fields vs) (hc : clsIn K C = some cd) (hh : cd.hasDict = true)
    (ret : ∀ dx od s', Same s s' → Fr h₀ L s'.heap m → Led h₀ L s'.heap ((x, { oe with dict := some dx }) :: (dx, od) :: l) → s'.heap.Ns1 dx (fun y => if y = name then some v else none) → Q (.done (.ret .none)) s') :
    wpAny (model prog w) A (storeInOwnDict (.ref x) (.ref C) (.str name tk) name v b) Q E s := by
  obtain ⟨vs, hf⟩ := hf
  have hx := Λ.get (.head _)
  obtain ⟨oc, odd, odt, osl⟩ := oe
  simp only at hcls hdn hf
  subst hcls hdn hf
  unfold storeInOwnDict ownStreamTells ownDictForStores instanceDict
  refine wpAny_bind (wpAny_pure ?_)
  rw [if_neg (by rw [show (Value.ref C == Value.type "module") = false from rfl]; exact Bool.false_ne_true)]
  refine wpAny_bind ?_
  dsimp only
  refine wpAny_bind (wpAny_loadPart hx ?_)
  dsimp only
  refine wpAny_bind ((looks_clsIn X hc).here ?_)
  rw [hh]
  simp only [Bool.not_true, Bool.false_eq_true, if_false]
  rw [if_neg (by simp [typeHasDict])]
  obtain ⟨hp, g, d, t, os⟩ := s
  have hx₁ : (hp.push { cls := .type "dict", data := .dict #[] }).get? x = some _ := Heap.get?_push_of_some _ hx
  have hxs : x ≠ hp.objs.size := Nat.ne_of_lt (Heap.lt_size hx)
  refine wpAny_bind (wpAny_alloc' ?_)
  refine wpAny_bind (wpAny_update' hx₁ ?_)
  refine wpAny_pure ?_
  dsimp only
  have hgd : ((hp.push { cls := .type "dict", data := .dict #[] }).update x fun o => { cls := o.cls, dict := some hp.objs.size, data := o.data, slots := o.slots }).get? hp.objs.size
      = some { cls := .type "dict", data := .dict #[] } := (Heap.get?_update_ne _ _ _ _ hxs.symm).trans (Heap.get?_push_at rfl rfl)
  have hnd : ((hp.push { cls := .type "dict", data := .dict #[] }).update x fun o => { cls := o.cls, dict := some hp.objs.size, data := o.data, slots := o.slots }).Ns hp.objs.size (fun _ => none) :=
    ⟨_, #[], _, hgd, rfl, fun e he => absurd he (by simp), fun _ => rfl⟩
  unfold storeInDict newKeyGuard
  refine wpAny_bind (wpAny_pure (wpAny_bind (wpAny_nsSet1 (Heap.Ns1.of_empty hnd) fun h' hn' hs => ?_)))
  obtain ⟨oD, esD, epD, hoD, hdD, hcD⟩ := hn'.count (Within.cons name v Within.nil)
  refine wpAny_bind (wpAny_lookBehind hoD (by rw [hdD]; exact pastItsLine_dict (Nat.le_trans hcD (by rw [List.length_cons, List.length_nil, sizeLine_eq]; omega))) ?_)
  refine wpAny_pure ?_
  have z := Λ.N _ (.head _)
  have hx' : h'.get? x = some { cls := .ref C, dict := some hp.objs.size, data := .fields vs, slots := osl } := (hs.2 x hxs).trans (Heap.get?_update_self _ hx₁ rfl)
  have keep : ∀ q b, q ≠ x → hp.get? q = some b → h'.get? q = some b := fun q b hq hb => (hs.2 q (Nat.ne_of_lt (Heap.lt_size hb))).trans ((Heap.get?_update_ne _ _ _ _ hq).trans (Heap.get?_push_of_some _ hb))
  have F₁ : Fr h₀ L ((hp.push { cls := .type "dict", data := .dict #[] }).update x fun o => { cls := o.cls, dict := some hp.objs.size, data := o.data, slots := o.slots }) m := (F.push _).change (Heap.SameBut.update ..) z.2.1 z.2.2
  have hsz : hp.objs.size ≠ L := Nat.ne_of_gt F.ns.lt
  have hnone : h₀.get? hp.objs.size = none := Heap.get?_none_of_le (Nat.le_trans F.above (Nat.le_of_lt F.ns.lt))
  refine ret hp.objs.size oD _ ⟨rfl, rfl, rfl⟩ (F₁.change hs hsz hnone) ⟨fun q hq => ?_, ?_⟩ hn'
  · rcases List.mem_cons.mp hq with rfl | hq
    · exact ⟨hx', z.2⟩
    · rcases List.mem_cons.mp hq with rfl | hq
      · exact ⟨hoD, hsz, hnone⟩
      · have y := Λ.N q (.tail _ hq)
        exact ⟨keep _ _ (Λ.ne q hq) y.1, y.2⟩
  · have := Λ.D
    simp only [List.map_cons, List.nodup_cons, List.mem_cons, not_or] at this ⊢
    refine ⟨⟨hxs, this.1⟩, fun hm => ?_, this.2⟩
    obtain ⟨q, hq, e⟩ := List.mem_map.mp hm
    exact Nat.lt_irrefl _ (e ▸ Heap.lt_size (Λ.N q (.tail _ hq)).1)
/-- a further one -/
theorem store_next {Q : Fin → Shared → Prop} {name : Str} {tk : Tok} {v : Value} {b : Bool} {mA : Str → Option Value} {ns : List Str} (F : Fr h₀ L s.heap m) (X : K.In s.heap) (Λ : Led h₀ L s.heap ((x, oe) :: (dx, od) :: l)) (hcls : oe.cls = .ref C) (hdn : oe.dict = some dx) (hc : clsIn K C = some cd) (hh : cd.hasDict = true)
    (hn : s.heap.Ns1 dx mA) (hw : Within mA ns) (hz : ns.length ≤ 1000)
    (ret : ∀ od' s', Same s s' → Fr h₀ L s'.heap m → Led h₀ L s'.heap ((x, oe) :: (dx, od') :: l) → s'.heap.Ns1 dx (fun y => if y = name then some v else mA y) → Q (.done (.ret .none)) s') :
    wpAny (model prog w) A (storeInOwnDict (.ref x) (.ref C) (.str name tk) name v b) Q E s := by
  have hx := Λ.get (.head _)
  obtain ⟨oc, odd, odt, osl⟩ := oe
  simp only at hcls hdn
  subst hcls hdn
  unfold storeInOwnDict ownStreamTells ownDictForStores instanceDict
  refine wpAny_bind (wpAny_pure ?_)
  rw [if_neg (by rw [show (Value.ref C == Value.type "module") = false from rfl]; exact Bool.false_ne_true)]
  refine wpAny_bind ?_
  dsimp only
  refine wpAny_bind (wpAny_loadPart hx ?_)
  dsimp only
  refine wpAny_bind ((looks_clsIn X hc).here ?_)
  rw [hh]
  simp only [Bool.not_true, Bool.false_eq_true, if_false]
  refine wpAny_pure ?_
  unfold storeInDict newKeyGuard
  refine wpAny_bind (wpAny_pure (wpAny_bind (wpAny_nsSet1 hn fun h' hn' hs => ?_)))
  obtain ⟨oD, esD, epD, hoD, hdD, hcD⟩ := hn'.count (Within.cons name v hw)
  refine wpAny_bind (wpAny_lookBehind hoD (by rw [hdD]; exact pastItsLine_dict (Nat.le_trans hcD (by rw [List.length_cons, sizeLine_eq]; omega))) ?_)
  refine wpAny_pure ?_
  have z := Λ.N _ (.tail _ (.head _))
  have Λ' : Led h₀ L s.heap ((dx, od) :: (x, ⟨.ref C, some dx, odt, osl⟩) :: l) := Λ.pulls [1]
  refine ret oD _ ⟨rfl, rfl, rfl⟩ (F.change hs z.2.1 z.2.2) ⟨fun q hq => ?_, Λ.D⟩ hn'
  rcases List.mem_cons.mp hq with rfl | hq
  · exact ⟨(hs.2 _ (Λ'.ne _ (.head _))).trans hx, (Λ.N _ (.head _)).2⟩
  · rcases List.mem_cons.mp hq with rfl | hq
    · exact ⟨hoD, z.2⟩
    · have y := Λ.N q (.tail _ (.tail _ hq))
      exact ⟨(hs.2 _ (Λ'.ne _ (.tail _ hq))).trans y.1, y.2⟩
end
/-- Exception.__init__(self, ..) as it is called from the __init__ of the text's -/
theorem exc_init {prog : Program} {w : World} {A : Around} {E : Value → Shared → Prop} {s : Shared} {h₀ : Heap} {L C x t : Addr} {m : Str → Option Value} {l : List (Addr × Obj)} {bm bmB : List Value} {B newId initId : String} {rest : List Value} {Q : Value → Shared → Prop}
    {nm q : Str} {N : Addr} {bs : List Value} {hdct : Bool} {sn : List Str} {sub : List Value} {ab : Bool} {col : Option Bool} {dd : Option Addr} {k0 k1 k2 k3 k5 : Option Value}
    (F : ExcBaseFacts B newId initId bmB) (hb : bm.contains (.type B) = true) (hC : s.heap.get? C = some (excClassObj nm q C N bs bm hdct sn sub ab col dd k0 k1 k2 k3 k5 newId)) (hz : rest.length ≤ 1000)
    (Fr' : Fr h₀ L s.heap m) (Λ : Led h₀ L s.heap ((x, excObj C t) :: l))
    (ret : ∀ t' s', Same s s' → Fr h₀ L s'.heap m → Led h₀ L s'.heap ((x, excObj C t') :: (t', tupOf rest) :: l) → Q .none s') :
    wpAny (model prog w) A (call (.builtin initId) (.ref x :: rest)) Q E s := by
  obtain ⟨h, g, d, tk, os⟩ := s
  have he := Λ.get (.head _)
  refine wpAny_call (codeAny_call_builtin F.init.plain F.initEntry ?_)
  have hcB : (Value.ref C :: bm).contains (.type B) = true := by rw [List.contains_cons, hb, Bool.or_true]
  have hshort := F.noStar
  simp only [checkBuiltinCall, F.initKind, F.initSplit, F.initRow]
  repeat (first | with_reducible refine wpAny_loadPart_at he ?_ | with_reducible refine wpAny_loadPart_at hC ?_ | (refine wpAny_isSubtype_exc (C := C) hC ?_; rw [hcB]) | wp_step)
  refine wpAny_onRaise ?_
  rw [show ∀ (a b : String) (n : Nat), Bind.check ⟨.positional, "*", B, .self, [⟨"args", .varPos, false⟩]⟩ a b n (List.map (fun x => x.fst) ({ pos := Value.ref x :: rest } : Args).kw) = pure () from
    fun a b n => check_star_args _ _ _ _ _ _]
  refine wpAny_pure ?_
  have hrest : rest.length ≤ sizeLine := by rw [sizeLine_eq]; omega
  wp_walk
  have z := Λ.N _ (.head _)
  have hxs : x ≠ h.objs.size := Nat.ne_of_lt (Heap.lt_size he)
  have hsz : h.objs.size ≠ L := Nat.ne_of_gt Fr'.ns.lt
  have hnone : h₀.get? h.objs.size = none := Heap.get?_none_of_le (Nat.le_trans Fr'.above (Nat.le_of_lt Fr'.ns.lt))
  have hx₁ : (h.push { cls := .type "tuple", data := .seq rest.toArray }).get? x = some (excObj C t) := Heap.get?_push_of_some _ he
  refine ret h.objs.size _ ⟨rfl, rfl, rfl⟩ ((Fr'.push _).change (Heap.SameBut.update ..) z.2.1 z.2.2) ⟨fun q hq => ?_, ?_⟩
  · rcases List.mem_cons.mp hq with rfl | hq
    · exact ⟨Heap.get?_update_self _ hx₁ rfl, z.2⟩
    · rcases List.mem_cons.mp hq with rfl | hq
      · exact ⟨(Heap.get?_update_ne _ _ _ _ hxs.symm).trans (Heap.get?_push_at rfl rfl), hsz, hnone⟩
      · have y := Λ.N q (.tail _ hq)
        exact ⟨(Heap.get?_update_ne _ _ _ _ (Λ.ne q hq)).trans (Heap.get?_push_of_some _ y.1), y.2⟩
  · have := Λ.D
    simp only [List.map_cons, List.nodup_cons, List.mem_cons, not_or] at this ⊢
    refine ⟨⟨hxs, this.1⟩, fun hm => ?_, this.2⟩
    obtain ⟨q, hq, e⟩ := List.mem_map.mp hm
    exact Nat.lt_irrefl _ (e ▸ Heap.lt_size (Λ.N q (.tail _ hq)).1)
end Mine
end
section
open PySem PySem.W PySem.Calls PyProof.Rows Builtin Builtin.ObjectAttr
namespace Mine
abbrev excTail : List Value := [.ref 47, .type "Exception", .type "BaseException", .type "object"]
noncomputable def excOk (K : Frag) : Bool := match K.lookup 60 with
  | some ⟨.type "type", _, .cls cd, sl⟩ => (match sl.toList with
    | [_, _, _, _, some (.builtin n), _] => cd.mro == .ref 60 :: excTail && n == "Exception.__new__" && !cd.hasDel && cd.hasDict
    | _ => false)
  | _ => false
theorem excOk_of {K : Frag} {h : Heap} (X : K.In h) (e : excOk K = true) : ∃ nm q N bs sn sub ab col dd k0 k1 k2 k3 k5 cd, h.get? 60 = some (excClassObj nm q 60 N bs excTail true sn sub ab col dd k0 k1 k2 k3 k5 "Exception.__new__") ∧ clsIn K 60 = some cd ∧ cd.mro = .ref 60 :: excTail ∧ cd.hasDict = true := by
  unfold excOk at e
  split at e
  · rename_i dd cd sl ho
    split at e
    · rename_i k0 k1 k2 k3 n k5 hs
      simp only [Bool.and_eq_true, beq_iff_eq, Bool.not_eq_true'] at e
      obtain ⟨⟨⟨e1, rfl⟩, e3⟩, e4⟩ := e
      have hc : clsIn K 60 = some cd := by unfold clsIn; rw [ho]
      refine ⟨cd.name, cd.qualname, cd.ns, cd.bases, cd.slotNames, cd.subclasses, cd.abstract, cd.collection, dd, k0, k1, k2, k3, k5, cd, ?_, hc, e1, e4⟩
      have hsl : sl = #[k0, k1, k2, k3, some (.builtin "Exception.__new__"), k5] := by
        obtain ⟨l⟩ := sl
        simp only at hs
        rw [hs]
      rw [X _ _ ho, hsl]
      obtain ⟨nm, bs, mro, ns, qn, hd, sn, sub, ab, col, del⟩ := cd
      simp only at e1 e3 e4
      subst e1 e3 e4
      rfl
    · cases e
  · cases e
theorem meta_exc : typeOf (.type "Exception") = pure (.type "type") := by first | rfl | kernel_rfl
section
variable {w : World} {d : Nat} {cs : Scope} {cl : List (Str × Addr)} {A : Around} {env : Env} {L : Addr} {h₀ : Heap} {m : Str → Option Value} {R l : List (Addr × Obj)} {s : Shared} {E : Value → Shared → Prop}
set_option maxHeartbeats 2000000 in
/-- DataFault(..) -/
theorem Fn.fault {Q : Value → Shared → Prop} {z : Str} {tz : Tok} (Γ : Fn w d cs cl A env L h₀) (hd' : d < 800) (F : Fr h₀ L s.heap m) (Λ : Led h₀ L s.heap l)
    (ret : ∀ e dx od t vs s', Same s s' → Fr h₀ L s'.heap m → Led h₀ L s'.heap ((e, { excObj 60 t with dict := some dx }) :: (dx, od) :: (t, tupOf vs) :: l) → Q (.ref e) s') :
    wpAny (model PG w) A (call (.ref 60) [.str z tz]) Q E s := by
  have X := Γ.X
  have hpg : PG = PySem.Challenge.rw_og0080_01.row.prog := rfl
  revert hpg X; k_fill; intro X hpg
  have hok : excOk (Mine.heap39 w.params) = true := by kernel_rfl
  obtain ⟨dp, un, gd, cn, a, ccd, outer, rfl, rfl, c, hd1, hu1⟩ := Γ
  obtain ⟨A₀, base, p, loose, mean, mg, mb, B, _, T, hke, hdp, hun⟩ := c
  obtain ⟨nm, q, N, bs, sn, sub, ab, col, dd, k0, k1, k2, k3, k5, cd, hC, hcd, hmro, hdct⟩ := excOk_of (X.keeps F.keep) hok
  refine wpAny_call ?_
  obtain ⟨h, gg, dr, tk, os⟩ := s
  refine' exc_core PySem.F.excBase_Exception (by decide) (by decide) (by decide) hC (by rw [sizeLine_eq]; exact Nat.le_of_ble_eq_true rfl) (looks_findIn (X.keeps F.keep) ?a1) (fun self => bind_fn (X.keeps F.keep) self ?a2) ?a3
  case a1 => exact (by kernel_rfl : findIn (Mine.heap39 w.params) (.ref 60) (Str.ofString "__init__") = some (some (.ref 37)))
  case a2 => kernel_rfl
  case a3 =>
    have F₁ : Fr h₀ L ((h.push (tupOf [.str z tz])).push (excObj 60 h.objs.size)) m := (F.push _).push _
    have Λ₁ : Led h₀ L ((h.push (tupOf [.str z tz])).push (excObj 60 h.objs.size)) ((h.objs.size + 1, excObj 60 h.objs.size) :: l) := by
      have N1 := (Λ.N.push F (tupOf [.str z tz])).push (F.push _) (excObj 60 h.objs.size)
      rw [Heap.size_push] at N1
      refine Λ.cons (fun p hp => N1 p ?_) fun p hp => Nat.lt_succ_of_lt (Heap.lt_size (Λ.N p hp).1)
      rcases List.mem_cons.mp hp with rfl | hp
      · exact .head _
      · exact .tail _ (.tail _ hp)
    generalize ((h.push (tupOf [.str z tz])).push (excObj 60 h.objs.size)) = h₁ at F₁ Λ₁
    generalize h.objs.size + 1 = e at Λ₁
    generalize h.objs.size = t at Λ₁
    refine' code_def B F₁ X Λ₁.N T rfl rfl hke ?b1 ?b2 ?b3 ?b4 ?b5 (fun g L' h' FG F' N' B' X' T' => ?_) ?c1 ?c2 ?c3 ?c4
    case b1 => k_is
    case b2 => k_is
    case b3 => rw [depth_under_make]; simp only [recursionLimit]; show dp + 1 < 1000; omega
    case b4 => first | exact BindsTo.of_eq rfl | exact binds_K (X.keeps F₁.keep) rfl (by k_is) rfl rfl rfl
    case b5 => exact locs rfl
    case c1 => rfl
    case c2 => rfl
    case c3 => rfl
    case c4 => decide
    have Λ' : Led g L' h' ((e, excObj 60 t) :: l) := ⟨N', Λ₁.D⟩
    obtain ⟨nm', q', N'', bs', sn', sub', ab', col', dd', l0, l1, l2, l3, l5, cd', hC', hcd', hmro', hdct'⟩ := excOk_of (X'.keeps F'.keep) hok
    -- Exception.__init__(self, what)
    refine wpAny_execs_cons (wpAny_Expr_any (methodCall_KW (nameX_B F' X' (topRead_of T') (by kernel_rfl) PyProof.Rows.Boot.«Exception» (by decide +kernel) ?_) rfl) rfl rfl)
    refine method_type F' X' meta_exc (by decide +kernel) (v := .builtin "Exception.__init__") (by kernel_rfl) rfl ?_
    refine PyProof.Rows.callWith_builtin1 (spliced_more (nameX_L F' rfl (spliced_more (nameX_L F' rfl (spliced_none ?_)))))
    refine exc_init (s := ⟨h', _, _, _, _⟩) PySem.F.excBase_Exception (by decide) hC' (by show 1 ≤ 1000; decide) F' Λ' fun t' s₂ e₂ F₂ Λ₂ => ?_
    -- self.what = what
    refine wpAny_execs_cons (plainObj_wpAny_Assign_Attribute (nameX_L F₂ rfl (nameX_L F₂ rfl ?_)))
    have I₂ : InstAt s₂.heap e (excObj 60 t') 60 none := ⟨Λ₂.get (.head _), rfl, rfl, trivial⟩
    refine set_plain (X'.keeps F₂.keep) I₂ (by kernel_rfl) (osa_x (s := { s₂ with toks := _ }) (X'.keeps F₂.keep) I₂ hcd' (by rw [hmro']; exact refuse_exc _) (by rw [hmro']; rfl) (by rw [hmro']; decide) (by kernel_rfl) fun b => ?_)
    refine store_first (s := { s₂ with toks := _ }) F₂ (X'.keeps F₂.keep) Λ₂ rfl rfl ⟨_, rfl⟩ hcd' hdct' fun dx od s₃ e₃ F₃ Λ₃ n₃ => ?_
    -- self.at = at
    refine wpAny_execs_cons (plainObj_wpAny_Assign_Attribute (nameX_L F₃ rfl (nameX_L F₃ rfl ?_)))
    have I₃ : InstAt s₃.heap e { excObj 60 t' with dict := some dx } 60 (some od) := ⟨Λ₃.get (.head _), rfl, rfl, Λ₃.get (.tail _ (.head _))⟩
    refine set_plain (X'.keeps F₃.keep) I₃ (by kernel_rfl) (osa_x (s := { s₃ with toks := _ }) (X'.keeps F₃.keep) I₃ hcd' (by rw [hmro']; exact refuse_exc _) (by rw [hmro']; rfl) (by rw [hmro']; decide) (by kernel_rfl) fun b => ?_)
    refine store_next (s := { s₃ with toks := _ }) F₃ (X'.keeps F₃.keep) Λ₃ rfl rfl hcd' hdct' n₃ (Within.cons _ _ Within.nil) (by show 1 ≤ 1000; decide) fun od' s₄ e₄ F₄ Λ₄ _ => ?_
    refine wpAny_execs_nil (leaveK_ F₄ Λ₄.N fun F₅ N₅ => ⟨rfl, ?_⟩)
    exact ret e dx od' t' _ _ (Same.trans e₂ (Same.trans e₃ e₄)) F₅ ⟨N₅, Λ₄.D⟩
end
end Mine
end
section
open PySem PySem.W PySem.Calls PyProof.Rows
namespace Mine
section
variable {M : Model} {A : Around} {E : Value → Shared → Prop} {env : Env}
variable {nm q : Str} {C N : Addr} {bs bm : List Value} {hdct : Bool} {sn : List Str} {sub : List Value} {ab : Bool} {col : Option Bool} {dd : Option Addr} {k0 k1 k2 k3 k5 : Option Value} {newId : String}
theorem raise_stmt {s : Shared} {x : Sem Value} {Q : Flow → Shared → Prop} (hbase : bm.contains (.type "BaseException") = true) (hh : A.handled = none)
    (h : wpAny M A x (fun v s₁ => ∃ e t od, v = .ref e ∧ s₁.heap.get? C = some (excClassObj nm q C N bs bm hdct sn sub ab col dd k0 k1 k2 k3 k5 newId) ∧
      s₁.heap.get? e = some { excObj C t with dict := od } ∧ E (.ref e) s₁) E s) :
    wpAny M A (raiseStmt env (some x) none) Q E s := by
  have hcB : (Value.ref C :: bm).contains (.type "BaseException") = true := by rw [List.contains_cons, hbase, Bool.or_true]
  unfold raiseStmt
  refine wpAny_bind (wpAny_mono h (fun v s₁ h₁ => ?_) fun _ _ x => x)
  obtain ⟨e, t, od, rfl, hC, he, hE⟩ := h₁
  obtain ⟨hp, g, d, tk, os⟩ := s₁
  repeat (first | with_reducible refine wpAny_loadPart_at he ?_ | with_reducible refine wpAny_loadPart_at hC ?_ | (with_reducible refine wpAny_isSubtype_exc hC ?_; rw [hcB]) | wp_step)
  exact wpAny_raiseNew_none hh hE
theorem raise_l {s : Shared} {ex : PySem.Expr} {pos : Pos} {Q : Flow → Shared → Prop} (hbase : bm.contains (.type "BaseException") = true) (hh : A.handled = none)
    (h : wpAny M A (eval ex env) (fun v s₁ => ∃ e t od, v = .ref e ∧ s₁.heap.get? C = some (excClassObj nm q C N bs bm hdct sn sub ab col dd k0 k1 k2 k3 k5 newId) ∧
      s₁.heap.get? e = some { excObj C t with dict := od } ∧ E (.ref e) s₁) E s) :
    wpAny M A (exec (.Raise (some ex) none pos) env) Q E s := by
  rw [arm_exec_Raise]
  simp only [evalOpt, Option.map]
  refine wpAny_bind (wpAny_standAt ?_)
  exact raise_stmt hbase hh (wpAny_bind (wpAny_mono h (fun v s₁ h₁ => wpAny_bind (wpAny_standAt (wpAny_pure h₁))) fun _ _ x => x))
end
end Mine
end
section
open PySem PySem.W PySem.Calls PyProof.Rows
namespace Mine
section
variable {M : Model} {A : Around} {E : Value → Shared → Prop} {s' : Shared} {base g : Heap} {outer : List Env} {L a e t dx C : Addr} {m : Str → Option Value} {name : Str} {scope : Scope} {cd : Value} {Q : Unit → Shared → Prop} {news : List (Addr × Obj)} {od : Obj} {vs : List Value}
theorem leave_exc (K : Below A base outer g) (F : Fr g L s'.heap m) (Λ : Led g L s'.heap ((e, { excObj C t with dict := some dx }) :: (dx, od) :: (t, tupOf vs) :: news))
    (hQ : ∀ h', RaisedS base g outer e (.ref C) t vs news h' → g.UpToSlots h' → Q () { s' with heap := h' }) (hk : scope.kind = .function := by rfl) :
    wpAny M (A.deeper (envOf name scope L a cd)) (leaving (envOf name scope L a cd) (.ref e)) Q E s' := by
  have K' := K.push (name := name) (a := a) (cd := cd) F hk
  have N := Λ.N
  let fs := (envOf name scope L a cd :: outer).filterMap (·.frame)
  have hin : ∀ env ∈ (envOf name scope L a cd :: outer), ∀ b, env.frame = some b → b ∈ e :: t :: fs := fun env he b hb => .tail _ (.tail _ (List.mem_filterMap.mpr ⟨env, he, hb⟩))
  have hge : g.get? e = none := (N _ (.head _)).2.2
  have hgt : g.get? t = none := (N _ (.tail _ (.tail _ (.head _)))).2.2
  have st : base.StaysIn (hideAll s'.heap (e :: t :: fs)) := fun b o q => hideAll_get _ (K'.stays b o q) fun hm => by
    rcases List.mem_cons.mp hm with rfl | hm
    · rw [fresh_of_stays K.stays hge] at q; cases q
    · rcases List.mem_cons.mp hm with rfl | hm
      · rw [fresh_of_stays K.stays hgt] at q; cases q
      · rw [(K'.frames.mem hm).1] at q; cases q
  have sg : ∀ b o, g.get? b = some o → b ∉ outer.filterMap (·.frame) → (hideAll s'.heap (e :: t :: fs)).get? b = some o := fun b o q nm => hideAll_get _ (F.keep b o q) fun hm => by
    rcases List.mem_cons.mp hm with rfl | hm
    · rw [hge] at q; cases q
    · rcases List.mem_cons.mp hm with rfl | hm
      · rw [hgt] at q; cases q
      · rcases kts_mem hm with z | z
        · rw [z, kts_self F] at q; cases q
        · exact nm z
  have hl : ∀ q ∈ news, (hideAll s'.heap (e :: t :: fs)).get? q.1 = some q.2 ∧ g.get? q.1 = none ∧ base.get? q.1 = none := fun q hq => by
    have y := N q (.tail _ (.tail _ (.tail _ hq)))
    refine ⟨hideAll_get _ y.1 fun hm => ?_, y.2.2, fresh_of_stays K.stays y.2.2⟩
    rcases List.mem_cons.mp hm with z | hm
    · exact Λ.ne q (.tail _ (.tail _ hq)) z
    · rcases List.mem_cons.mp hm with z | hm
      · exact Λ.tail.tail.ne q hq z
      · obtain ⟨env, he, hf⟩ := List.mem_filterMap.mp hm
        rcases List.mem_cons.mp he with rfl | he
        · exact y.2.1 (Option.some.inj hf).symm
        · obtain ⟨o, ho, _⟩ := (K.frames.mem (List.mem_filterMap.mpr ⟨env, he, hf⟩)).2
          rw [y.2.2] at ho; cases ho
  have hen : (hideAll s'.heap (e :: t :: fs)).get? e = none := hideAll_none _ (.head _)
  refine wpAny_leaving_firstW (a0 := .ref t) K'.stack (funFrames_hide K'.frames hin) rfl (Λ.get (.head _)) (fun b o q => of_hideAll _ q) hen rfl rfl rfl fun h' hL => ?_
  obtain ⟨k1, ⟨_, _, k2⟩, k3, k4⟩ := hL
  exact hQ h' ⟨⟨_, st, sg, hl, ⟨k1, hen, k2, k3⟩, hideAll_none _ (.tail _ (.head _))⟩, Heap.TupAt.of_slots ⟨_, _, Λ.get (.tail _ (.tail _ (.head _))), rfl, rfl⟩ k4⟩ ((Heap.UpToSlots.of_keeps F.keep).trans k4)
end
end Mine
end
section
open PySem PySem.W PySem.Calls PyProof.Rows
namespace Mine
section
variable {prog : Program} {w : World} {A A₀ : Around} {E : Value → Shared → Prop} {s' : Shared} {base g G : Heap} {outer : List Env} {L a e t C : Addr} {m : Str → Option Value} {name : Str} {scope : Scope} {cd : Value} {cl : List (Str × Addr)}
  {vs : List Value} {b₀ : Stmt} {suite : List Stmt} {pos np : Pos} {rest : List ExceptHandler} {Q : Flow → Shared → Prop} {news : List (Addr × Obj)} {KF : Frag} {p : Program} {loose : List Str} {mean : ExcName → Option Value} {mg mb : Str → Option Value} {x : Str}
/-- except C: .., at the caller of what raised -/
theorem caught_x (R : RaisedS base G (envX name scope L a cd cl :: outer) e (.ref C) t vs news s'.heap) (hA : A.frames = some (envX name scope L a cd cl :: outer)) (F : Fr g L G m) (K : Below A₀ base outer g) (hsm : G.UpToSlots s'.heap) (XB : KF.In base) (TB : Top p loose mean mg mb base)
    (D : KtsDicts (outer.filterMap (·.frame)) g)
    (ex : nsIn KF mainGlobals x = some (some (.ref C))) (q : ktsIn KF C "BaseException" = true)
    (k : ∀ h' g', KtsTurn (outer.filterMap (·.frame)) g g' → Fr g' L h' m → News g' L h' news → Below A₀ base outer g' → KtsDicts (outer.filterMap (·.frame)) g' →
      wpAny (model prog w) (A.mark (some (.ref e))) (execs (b₀ :: suite) (envX name scope L a cd cl)) Q E { s' with heap := h' })
    (hE : PassesOwnAt (model prog w) (A.mark (some (.ref e))) A (envX name scope L a cd cl) E)
    (hk : scope.kind = .function := by rfl) (hx : (envX name scope L a cd cl).kindOf x = some .globalImplicit := by rfl) (hd : (x == ("__debug__" : Str)) = false := by decide) :
    wpAny (model prog w) A (noteFrame (.ref e) (envX name scope L a cd cl))
      (fun _ s₂ => wpAny (model prog w) A (setFlight (.ref e) none) (fun _ s₃ =>
        wpAny (model prog w) A (handleBy (.ref e) (envX name scope L a cd cl) (.ExceptHandler (some (.Name x np)) none (b₀ :: suite) pos :: rest)) Q E s₃) E s₂) E s' := by
  obtain ⟨⟨B, hB, hBG, hl, hfl, hnew⟩, htup⟩ := R
  have hL : B.get? L = none := by
    obtain ⟨_, ⟨L', _, hf, hn', _⟩, _⟩ := hfl.2.2.1
    obtain rfl : L = L' := Option.some.inj hf
    exact hn'
  refine wpAny_looks_onW hA rfl hfl fun h₄ hheld₄ hsm₄ => ?_
  refine wpAny_landsW hheld₄ fun h₅ hheld hsm₅' => ?_
  have hsm₅ := hsm₄.trans hsm₅'
  obtain ⟨g₅, T₅, F₅, K₅⟩ := kts_ground (name := name) (scope := scope) (a := a) (cd := cd) K F hBG hheld.1 (hsm.trans hsm₅)
  have X₅ : KF.In g₅ := XB.keeps K₅.stays
  have P₅ : TopRead p loose mg mb g₅ := topRead_of (TB.keeps K₅.stays)
  obtain ⟨ob, hob, hobc⟩ := hheld.there
  obtain ⟨nm, q', N, bs, bm, hdct, sn, sub, ab, col, dd, k0, k1, k2, k3, k5, newId, hC, hbase, hbT⟩ := kts_cls X₅ q
  have hC₅ := F₅.keep _ _ hC
  refine wpAny_handleBy_cons (codeAny_handlers_test (nameX_K F₅ X₅ P₅ ex ?_ hk hx hd)) (by intro q; cases q)
  refine wpAny_excMatches_sub_self hC₅ hob hobc hbase (codeAny_handlers_suite ?_)
  refine lands_againW hheld fun h₆ hfl₆ hsm₆ => ?_
  obtain ⟨g₆, T₆, F₆, K₆⟩ := kts_ground (name := name) (scope := scope) (a := a) (cd := cd) K F hBG hfl₆.1 ((hsm.trans hsm₅).trans hsm₆)
  have Nl : News g₆ L h₆ news := fun q hq => ⟨hfl₆.1 _ _ (hl q hq).1, (fun z => by have := (hl q hq).1; rw [z, hL] at this; cases this), T₆.none_ _ (kts_none F.keep (hl q hq).2.1)⟩
  exact wpAny_passesOwnAt hE (k h₆ g₆ T₆ F₆ Nl K₆ (D.turn T₆))
end
end Mine
end
section
open PySem PySem.W PySem.Calls PyProof.Rows
namespace Mine
abbrev frs (l : List Env) : List Addr := l.filterMap (·.frame)
theorem mem_frs {env : Env} {L b : Addr} {outer : List Env} (hf : env.frame = some L) (hm : b ∈ frs (env :: outer)) : b = L ∨ b ∈ frs outer := by
  obtain ⟨e, he, hb⟩ := List.mem_filterMap.mp hm
  rcases List.mem_cons.mp he with rfl | he
  · exact .inl (Option.some.inj (hf.symm.trans hb)).symm
  · exact .inr (List.mem_filterMap.mpr ⟨e, he, hb⟩)
/-- left, the base perhaps turned by an exception caught within -/
def LeaveT (fs : List Addr) (A₀ : Around) (base : Heap) (outer : List Env) (h₀ : Heap) (L : Addr) (m : Str → Option Value) (g : Heap) (R : Result → Shared → Prop) (v : Value) (s' : Shared) : Prop :=
  ∃ g' L' m' news', KtsTurn fs g g' ∧ Fr g' L' s'.heap m' ∧ News g' L' s'.heap news' ∧ ∀ h₀', KtsTurn (frs outer) h₀ h₀' → Fr h₀' L s'.heap m → News h₀' L s'.heap news' → Below A₀ base outer h₀' → KtsDicts (frs outer) h₀' → R (.ok (.ret v)) s'
section
variable {prog : Program} {w : World} {A₀ A : Around} {s : Shared} {base h₀ : Heap} {outer : List Env} {env : Env} {L : Addr} {m : Str → Option Value} {news : List (Addr × Obj)} {K : Frag} {p : Program} {loose : List Str} {mean : ExcName → Option Value} {mg mb : Str → Option Value}
    {R : Result → Shared → Prop} {name qual : Str} {params : Arguments} {body : List Stmt} {scope : Scope} {dV kV doc pm cdv ct oc : Value} {an od : Option Addr} {osl : Array (Option Value)} {f : Addr} {args : Args} {binds : List (Str × Value)}
theorem ground_T (B : Below A₀ base outer h₀) (F : Fr h₀ L s.heap m) (N : News h₀ L s.heap news) (D : KtsDicts (frs outer) h₀) (hA : A.frames = some (env :: outer)) (hf : env.frame = some L) (hke : env.scope.kind = .function) :
    Fr h₀ L (hideAll s.heap (news.map (·.1))) m ∧ Below A base (env :: outer) (hideAll s.heap (news.map (·.1))) ∧ h₀.StaysIn (hideAll s.heap (news.map (·.1))) ∧ KtsDicts (frs (env :: outer)) (hideAll s.heap (news.map (·.1))) ∧
      ∀ v s', LeaveT (frs (env :: outer)) A₀ base outer h₀ L m (hideAll s.heap (news.map (·.1))) R v s' → R (.ok (.ret v)) s' := by
  obtain ⟨FG, BG, st, -⟩ := groundX (R := R) B F N hA hf hke
  obtain ⟨oL, es, ep, hLg, hLd, hLk, hLf⟩ := FG.ns
  have hNs : ∀ (sl : Array (Option Value)) h', h'.get? L = some { oL with slots := sl } → Heap.Ns h' L m := fun sl h' e => ⟨_, es, ep, e, hLd, hLk, hLf⟩
  refine ⟨FG, BG, st, fun b hb => ?_, fun v s' hl => ?_⟩
  · rcases mem_frs hf hb with rfl | hb
    · exact ⟨oL, es, ep, hLg, hLd⟩
    · obtain ⟨o, es', n', ho', hd'⟩ := D b hb
      exact ⟨o, es', n', st b o ho', hd'⟩
  have nL₀ : h₀.get? L = none := kts_self F
  obtain ⟨g', L', m', news', T', F', N', k⟩ := hl
  obtain ⟨sl, hs⟩ := T'.up hLg
  obtain ⟨T₁, S₁⟩ := kts_turn_at (h := s'.heap) (fs := frs outer) (g := h₀)
    (fun b hb => by
      obtain ⟨_, o, ho', _⟩ := B.frames.mem hb
      exact ⟨o, ho'⟩)
    (fun b o e nmem => F'.keep b o (T'.other b o (st b o e) (fun q => by
      rcases mem_frs hf q with z | z
      · rw [z, nL₀] at e; cases e
      · exact nmem z)))
    (fun b o e hm => by
      obtain ⟨sl', hs'⟩ := T'.up (st b o e)
      exact ⟨sl', F'.keep _ _ hs'⟩)
  have B₃ : Below A₀ base outer (ktsHeap s'.heap (frs outer) h₀) := ⟨B.stack, fun b o e => T₁.other b o (B.stays b o e) (fun hm => by
    rw [(B.frames.mem hm).1] at e
    cases e), B.frames.of_keeps fun b o e _ => by
    obtain ⟨sl', hs'⟩ := T₁.up e
    exact ⟨_, hs', rfl⟩⟩
  refine k _ T₁ ⟨hNs sl _ (F'.keep _ _ hs), S₁, by rw [T₁.size]; exact F.above⟩ (fun p hp => ⟨(N' p hp).1, fun q => ?_, ?_⟩) B₃ (D.turn T₁)
  · have := (N' p hp).2.2; rw [q, hs] at this; cases this
  · refine T₁.none_ _ ?_
    cases q : h₀.get? p.1 with
    | none => rfl
    | some o =>
      obtain ⟨sl', hs'⟩ := T'.up (st _ _ q)
      have := (N' p hp).2.2
      rw [hs'] at this
      cases this
theorem code_defT (B : Below A₀ base outer h₀) (F : Fr h₀ L s.heap m) (X₀ : K.In h₀) (N : News h₀ L s.heap news) (T : Top p loose mean mg mb h₀) (D : KtsDicts (frs outer) h₀)
    (hA : A.frames = some (env :: outer)) (hf : env.frame = some L) (hke : env.scope.kind = .function)
    (ho : K.lookup f = some ⟨oc, od, .func (fnOf name qual params body scope dV kV doc pm an cdv ct), osl⟩) (hcd : codeIn K cdv qual = true) (hroom : A.depth < recursionLimit)
    (hbind : BindsTo s (fnOf name qual params body scope dV kV doc pm an cdv ct) args binds) (hkind : (binds.all fun y => scope.names.lookup y.1 == some .local || scope.names.lookup y.1 == some .cell) = true)
    (hnd : ((cellsFrom 0 scope.names []).map (·.1)).Nodup)
    (h : ∀ g L' h₁ tk cells, Fr g L' h₁ (bindL (fun y => List.lookup y scope.names) binds fun _ => none) → News g L' h₁ (cells ++ news) → CellsAre (bindC (fun y => List.lookup y scope.names) binds fun _ => none) (cellsFrom (L' + 1) scope.names []) cells →
      Below A base (env :: outer) g → K.In g → Top p loose mean mg mb g → KtsDicts (frs (env :: outer)) g → Fr h₀ L g m → (∀ p ∈ news, p.1 < L') →
      wpAny (model prog w) (A.deeper (envOfC qual scope L' f cdv)) (execs body (envOfC qual scope L' f cdv))
        (fun fl s' => LeaveT (frs (env :: outer)) A₀ base outer h₀ L m g R (match fl with | .ret v => v | _ => .none) s')
        (fun e s' => wpAny (model prog w) (A.deeper (envOfC qual scope L' f cdv)) (leaving (envOfC qual scope L' f cdv) e) (fun _ s'' => R (.error e) s'') (fun e' s'' => R (.error e') s'') s')
        { s with heap := h₁, toks := tk })
    (hco : scope.isCoroutine = false) (hgen : scope.isGenerator = false) (hk : scope.kind = .function) : codeAny (model prog w) A (.call (.ref f) args) R s := by
  obtain ⟨FG, BG, st, DG, lv⟩ := ground_T (R := R) B F N D hA hf hke
  have X := X₀.keeps F.keep
  refine codeAny_call_function (fd := fnOf name qual params body scope dV kV doc pm an cdv ct) (body := body) hroom (X _ _ ho) rfl hco hgen rfl (codeRec_of X hcd) (hbind _ _ _ _ ?_)
  refine wpAny_newFunctionEnv_cells hk (kindsX hkind _) fun env' he s' x => ?_
  subst he
  refine ⟨(T.nolimit.keeps F.keep).keeps x.toInCall.keep, codeAny_func ?_⟩
  obtain ⟨h₁, tk, rfl, _⟩ := x.done
  have hk₁ := x.toInCall.keep
  obtain ⟨cells, NC, Y⟩ := Cl.news (h₀ := s.heap) (Nat.le_refl _) fun n c hm => ⟨x.cell n c (lookup_of_mem_nodup (cellsFrom_names scope.names 0 (s.heap.objs.size + 1) [] [] rfl ▸ hnd) hm), x.above n c hm⟩
  refine wpAny_mono (h _ s.heap.objs.size h₁ tk cells ⟨x.toInCall.ns, fun b o e => hk₁ b o (of_hideAll _ e), Nat.le_of_eq (hideAll_size _ _)⟩ (fun p hp => ?_) Y BG (X₀.keeps st) (T.keeps st) DG FG (fun p hp => Heap.lt_size (N p hp).1)) (fun fl s' hl => lv _ _ hl) fun _ _ y => y
  rcases List.mem_append.mp hp with hp | hp
  · refine ⟨(NC p hp).1, (NC p hp).2.1, ?_⟩
    cases q : (hideAll s.heap (news.map (·.1))).get? p.1 with
    | none => rfl
    | some o => have := of_hideAll _ q; rw [(NC p hp).2.2] at this; cases this
  · exact ⟨hk₁ _ _ (N p hp).1, Nat.ne_of_lt (Heap.lt_size (N p hp).1), hideAll_none _ (List.mem_map_of_mem hp)⟩
end
theorem cellsFrom_nd (n₀ : Addr) : ∀ (names : List (Str × NameKind)) (n : Nat) (acc : List (Str × Addr)), n₀ ≤ n → (∀ q ∈ acc, n₀ ≤ q.2 ∧ q.2 < n) → (acc.map (·.2)).Nodup → ((cellsFrom n names acc).map (·.2)).Nodup ∧ ∀ q ∈ cellsFrom n names acc, n₀ ≤ q.2
  | [], _, _, _, ha, hd => ⟨hd, fun q hq => (ha q hq).1⟩
  | (x, k) :: r, n, acc, hn, ha, hd => by
    unfold cellsFrom
    split
    · refine cellsFrom_nd n₀ r (n + 1) ((x, n) :: acc) (Nat.le_succ_of_le hn) (fun q hq => ?_) ?_
      · rcases List.mem_cons.mp hq with rfl | hq
        · exact ⟨hn, Nat.lt_succ_self _⟩
        · exact ⟨(ha q hq).1, Nat.lt_succ_of_lt (ha q hq).2⟩
      · rw [List.map_cons, List.nodup_cons]
        refine ⟨fun hm => ?_, hd⟩
        obtain ⟨q, hq, e⟩ := List.mem_map.mp hm
        exact Nat.lt_irrefl _ (e ▸ (ha q hq).2)
    · exact cellsFrom_nd n₀ r n acc hn ha hd
theorem cells_addr {cm : Str → Option Value} : ∀ {cs : List (Str × Addr)} {cells : List (Addr × Obj)}, CellsAre cm cs cells → cells.map (·.1) = cs.map (·.2)
  | _, _, .nil => rfl
  | _, _, .cons _ r => by rw [List.map_cons, List.map_cons, cells_addr r]
theorem cells_nd {cm : Str → Option Value} {names : List (Str × NameKind)} {L' : Addr} {cells l : List (Addr × Obj)} (Y : CellsAre cm (cellsFrom (L' + 1) names []) cells) (hl : ∀ p ∈ l, p.1 < L') (hd : (l.map (·.1)).Nodup) : ((cells ++ l).map (·.1)).Nodup := by
  obtain ⟨h1, h2⟩ := cellsFrom_nd (L' + 1) names (L' + 1) [] (Nat.le_refl _) (fun _ h => nomatch h) List.nodup_nil
  rw [List.map_append, List.nodup_append]
  refine ⟨by rw [cells_addr Y]; exact h1, hd, fun a ha b hb e => ?_⟩
  rw [cells_addr Y] at ha
  obtain ⟨q, hq, rfl⟩ := List.mem_map.mp ha
  obtain ⟨p, hp, rfl⟩ := List.mem_map.mp hb
  have a1 := h2 q hq
  have a2 := hl p hp
  rw [e] at a1
  exact absurd (Nat.lt_of_lt_of_le (Nat.lt_succ_of_lt a2) a1) (Nat.lt_irrefl _)
end Mine
end
section
open PySem PySem.W PySem.Calls PyProof.Rows
namespace Mine
/-- the ground below a call: what stays while an exception flies -/
def Gd (w : World) (A : Around) (env : Env) (L : Addr) (h₀ : Heap) : Prop :=
  ∃ A₀ base outer p loose mean mg mb, A.frames = some (env :: outer) ∧ env.frame = some L ∧ env.scope.kind = .function ∧ Below A₀ base outer h₀ ∧ (Mine.heap39 w.params).In base ∧ Top p loose mean mg mb base ∧ KtsDicts (frs outer) h₀
/-- a DataFault has left what was called from here -/
def Flown (w : World) (A : Around) (env : Env) (L : Addr) (h₀ : Heap) (m : Str → Option Value) (l : List (Addr × Obj)) (e : Addr) (h : Heap) : Prop :=
  ∃ A₀ base outer p loose mean mg mb G t vs, A.frames = some (env :: outer) ∧ Below A₀ base outer h₀ ∧ (Mine.heap39 w.params).In base ∧ Top p loose mean mg mb base ∧ KtsDicts (frs outer) h₀ ∧ Fr h₀ L G m ∧ G.UpToSlots h ∧ RaisedS base G (env :: outer) e (.ref 60) t vs l h ∧ (l.map (·.1)).Nodup
section
variable {w : World} {d : Nat} {cs : Scope} {cl : List (Str × Addr)} {A : Around} {env : Env} {L : Addr} {h₀ : Heap} {m : Str → Option Value} {R l : List (Addr × Obj)} {s : Shared} {E : Value → Shared → Prop}
/-- a def of the text's is entered, that may raise -/
theorem Fn.enterR {f : Addr} {args : List Value} {name qual : Str} {params : Arguments} {body : List Stmt} {scope : Scope} {dV kV doc pm cdv ct oc : Value} {an od : Option Addr} {osl : Array (Option Value)} (binds : List (Str × Value)) {Q : Value → Shared → Prop}
    (Γ : Fn w d cs cl A env L h₀) (D : Gd w A env L h₀) (hdp : d < 880) (F : Fr h₀ L s.heap m) (Λ : Led h₀ L s.heap l)
    (ho : (Mine.heap39 w.params).lookup f = some ⟨oc, od, .func (fnOf name qual params body scope dV kV doc pm an cdv ct), osl⟩) (hcd : codeIn (Mine.heap39 w.params) cdv qual = true)
    (hbind : bindArgs (fnOf name qual params body scope dV kV doc pm an cdv ct) ⟨args, []⟩ = pure binds) (hloc : (binds.all fun x => decide (scope.names.lookup x.1 = some .local)) = true)
    (hsc : (!scope.isCoroutine && !scope.isGenerator && scope.kind == .function && scope.names.all fun x => x.2 != .cell) = true)
    (h : ∀ A' env' g L' (s₁ : Shared) m₁ (Q' : Flow → Shared → Prop) (E' : Value → Shared → Prop), Same s s₁ → Fn w (d + 1) scope [] A' env' L' g → Gd w A' env' L' g → Fr g L' s₁.heap m₁ → (∀ y v, binds.reverse.lookup y = some v → m₁ y = some v) → Led g L' s₁.heap l →
      PassesOwn (model PG w) A' env' E' →
      (∀ fl v s' m' l', (fl = .ret v ∨ (fl = .next ∧ v = .none)) → Fr g L' s'.heap m' → Led g L' s'.heap l' → (Fr h₀ L s'.heap m → Led h₀ L s'.heap l' → Q v s') → Q' fl s') →
      (∀ e dx ob t vs s' m' l', Fr g L' s'.heap m' → Led g L' s'.heap ((e, { excObj 60 t with dict := some dx }) :: (dx, ob) :: (t, tupOf vs) :: l') → (∀ s'', Same s' s'' → Flown w A env L h₀ m l' e s''.heap → E (.ref e) s'') → E' (.ref e) s') →
      wpAny (model PG w) A' (execs body env') Q' E' s₁) :
    wpAny (model PG w) A (call (.ref f) args) Q E s := by
  obtain ⟨dp, un, gd, cn, a, ccd, outer, rfl, rfl, c, hd1, hu1⟩ := Γ
  obtain ⟨A₀, base, outer', p, loose, mean, mg, mb, hfr, hfl, hke, B, XB, TB, KD⟩ := D
  obtain rfl : outer = outer' := by injection hfr with e; injection e
  simp only [Bool.and_eq_true, Bool.not_eq_true', beq_iff_eq] at hsc
  obtain ⟨⟨⟨h1, h2⟩, h3⟩, h4⟩ := hsc
  have hcell : ∀ x ∈ scope.names, x.2 ≠ .cell := fun x hx e => by
    have := List.all_eq_true.mp h4 x hx
    rw [e] at this
    exact absurd this (by decide)
  refine wpAny_call (code_def B F (XB.keeps B.stays) Λ.N (TB.keeps B.stays) rfl rfl hke ho hcd (by simp only [recursionLimit]; show dp < 1000; omega) (BindsTo.of_eq hbind) (fun y hy => of_decide_eq_true (List.all_eq_true.mp hloc y hy)) (fun g L' h' FG F' N' B' X' T' => ?_) h1 h2 h3 hcell)
  have D' : KtsDicts (frs (envX cn cs L a ccd cl :: outer)) g := fun b hb => by
    rcases mem_frs (env := envX cn cs L a ccd cl) rfl hb with rfl | hb
    · obtain ⟨o, es, ep, e1, e2, _⟩ := FG.ns
      exact ⟨o, es, ep, e1, e2⟩
    · obtain ⟨o, es, n, e1, e2⟩ := KD b hb
      exact ⟨o, es, n, FG.keep _ _ e1, e2⟩
  refine h _ _ g L' _ _ _ _ ⟨rfl, rfl, rfl⟩ ⟨dp + 1, un + 3, gd, qual, f, cdv, envX cn cs L a ccd cl :: outer, rfl, rfl, ⟨_, _, _, _, _, _, _, B', X', T', h3, by omega, by omega⟩, by omega, by omega⟩
    ⟨_, _, _, p, loose, mean, mg, mb, rfl, rfl, h3, B', XB, TB, D'⟩ F' (fun _ _ e => e) ⟨N', Λ.D⟩ (by passes_own) (fun fl v s' m' l' hf F₁ Λ₁ q => ?_) (fun e dx ob t vs s' m' l' F₁ Λ₁ q => ?_)
  · rcases hf with rfl | ⟨rfl, rfl⟩ <;> exact leaveK_ F₁ Λ₁.N fun F₂ N₂ => q F₂ ⟨N₂, Λ₁.D⟩
  · exact leave_exc B' F₁ Λ₁ (fun h' R U => q _ ⟨rfl, rfl, rfl⟩ ⟨_, _, _, p, loose, mean, mg, mb, g, t, vs, rfl, B, XB, TB, KD, FG, U, R, Λ₁.tail.tail.tail.D⟩) h3
end
end Mine
end
section
open PySem PySem.W PySem.Calls PyProof.Rows
namespace Mine
/-- the base, turned by an exception caught here or below -/
def Turn (A : Around) (env : Env) (g g' : Heap) : Prop := ∃ outer, A.frames = some (env :: outer) ∧ KtsTurn (frs outer) g g'
section
variable {w : World} {d : Nat} {cs : Scope} {cl : List (Str × Addr)} {A : Around} {env : Env} {L : Addr} {h₀ : Heap} {m : Str → Option Value} {R l : List (Addr × Obj)} {s : Shared} {E : Value → Shared → Prop}
theorem Turn.refl (D : Gd w A env L h₀) : Turn A env h₀ h₀ := by
  obtain ⟨_, _, outer, _, _, _, _, _, hfr, _⟩ := D
  exact ⟨outer, hfr, .refl⟩
theorem Turn.trans {g g₁ g₂ : Heap} (a : Turn A env g g₁) (b : Turn A env g₁ g₂) : Turn A env g g₂ := by
  obtain ⟨o1, f1, t1⟩ := a
  obtain ⟨o2, f2, t2⟩ := b
  obtain rfl : o1 = o2 := by rw [f1] at f2; injection f2 with e; injection e
  exact ⟨o1, f1, t1.trans t2⟩
/-- a def of the text's is entered, in which an exception may be caught -/
theorem Fn.enterT {f : Addr} {args : List Value} {name qual : Str} {params : Arguments} {body : List Stmt} {scope : Scope} {dV kV doc pm cdv ct oc : Value} {an od : Option Addr} {osl : Array (Option Value)} (binds : List (Str × Value)) {Q : Value → Shared → Prop}
    (Γ : Fn w d cs cl A env L h₀) (D : Gd w A env L h₀) (hdp : d < 880) (F : Fr h₀ L s.heap m) (Λ : Led h₀ L s.heap l)
    (ho : (Mine.heap39 w.params).lookup f = some ⟨oc, od, .func (fnOf name qual params body scope dV kV doc pm an cdv ct), osl⟩) (hcd : codeIn (Mine.heap39 w.params) cdv qual = true)
    (hbind : bindArgs (fnOf name qual params body scope dV kV doc pm an cdv ct) ⟨args, []⟩ = pure binds) (hkind : (binds.all fun y => scope.names.lookup y.1 == some .local || scope.names.lookup y.1 == some .cell) = true)
    (hnd : ((cellsFrom 0 scope.names []).map (·.1)).Nodup) (hsc : (!scope.isCoroutine && !scope.isGenerator && scope.kind == .function) = true)
    (h : ∀ A' env' g L' (s₁ : Shared) cells (Q' : Flow → Shared → Prop) (E' : Value → Shared → Prop), Same s s₁ → (∀ b o, h₀.get? b = some o → g.get? b = some o) → env' = envX qual scope L' f cdv (cellsFrom (L' + 1) scope.names []) → Fn w (d + 1) scope (cellsFrom (L' + 1) scope.names []) A' env' L' g → Gd w A' env' L' g → Fr g L' s₁.heap (bindL (fun y => List.lookup y scope.names) binds fun _ => none) →
      CellsAre (bindC (fun y => List.lookup y scope.names) binds fun _ => none) (cellsFrom (L' + 1) scope.names []) cells → Led g L' s₁.heap (cells ++ l) →
      PassesOwn (model PG w) A' env' E' → (∀ e, PassesOwnAt (model PG w) (A'.mark (some (.ref e))) A' env' E') →
      (∀ fl v s' m' l' g', (fl = .ret v ∨ (fl = .next ∧ v = .none)) → Turn A' env' g g' → Fr g' L' s'.heap m' → Led g' L' s'.heap l' →
        (∀ h₀', Turn A env h₀ h₀' → Fn w d cs cl A env L h₀' → Gd w A env L h₀' → Fr h₀' L s'.heap m → Led h₀' L s'.heap l' → Q v s') → Q' fl s') →
      wpAny (model PG w) A' (execs body env') Q' E' s₁) :
    wpAny (model PG w) A (call (.ref f) args) Q E s := by
  obtain ⟨dp, un, gd, cn, a, ccd, outer, rfl, rfl, c, hd1, hu1⟩ := Γ
  obtain ⟨A₀, base, outer', p, loose, mean, mg, mb, hfr, hfl, hke, B, XB, TB, KD⟩ := D
  obtain rfl : outer = outer' := by injection hfr with e; injection e
  have hcx : ∀ h₀', Below A₀ base outer h₀' → Cx w dp un cs outer h₀' := fun h₀' B' => by
    obtain ⟨_, _, _, _, _, _, _, _, _, _, _, q1, q2⟩ := c
    exact ⟨A₀, base, p, loose, mean, mg, mb, B', XB.keeps B'.stays, TB.keeps B'.stays, hke, q1, q2⟩
  simp only [Bool.and_eq_true, Bool.not_eq_true', beq_iff_eq] at hsc
  obtain ⟨⟨h1, h2⟩, h3⟩ := hsc
  refine wpAny_call (code_defT B F (XB.keeps B.stays) Λ.N (TB.keeps B.stays) KD rfl rfl hke ho hcd (by simp only [recursionLimit]; show dp < 1000; omega) (BindsTo.of_eq hbind) hkind hnd (fun g L' h' tk cells F' N' Y B' X' T' D' FG hlt => ?_) h1 h2 h3)
  refine h _ _ g L' _ cells _ _ ⟨rfl, rfl, rfl⟩ FG.keep rfl ⟨dp + 1, un + 3, gd, qual, f, cdv, envX cn cs L a ccd cl :: outer, rfl, rfl, ⟨_, _, _, _, _, _, _, B', X', T', h3, by omega, by omega⟩, by omega, by omega⟩
    ⟨_, _, _, p, loose, mean, mg, mb, rfl, rfl, h3, B', XB, TB, D'⟩ F' Y ⟨N', cells_nd Y hlt Λ.D⟩ (by passes_own) (fun e => by passes_own) (fun fl v s' m' l' g' hf hT F₁ Λ₁ q => ?_)
  obtain ⟨o2, hfr2, hT⟩ := hT
  obtain rfl : envX cn cs L a ccd cl :: outer = o2 := by injection hfr2 with e; injection e
  have q' : ∀ h₀', KtsTurn (frs outer) h₀ h₀' → Fr h₀' L s'.heap m → News h₀' L s'.heap l' → Below A₀ base outer h₀' → KtsDicts (frs outer) h₀' → Q v s' := fun h₀' t F₂ N₂ B₂ D₂ =>
    q h₀' ⟨outer, rfl, t⟩ ⟨dp, un, gd, cn, a, ccd, outer, rfl, rfl, hcx h₀' B₂, hd1, hu1⟩ ⟨A₀, base, outer, p, loose, mean, mg, mb, rfl, rfl, hke, B₂, XB, TB, D₂⟩ F₂ ⟨N₂, Λ₁.D⟩
  rcases hf with rfl | ⟨rfl, rfl⟩ <;> exact ⟨g', L', m', l', hT, F₁, Λ₁.N, q'⟩
/-- except DataFault: .. -/
theorem Fn.except {e : Addr} {l' : List (Addr × Obj)} {b₀ : Stmt} {suite : List Stmt} {pos np : Pos} {rest : List ExceptHandler} {Q : Flow → Shared → Prop} (Γ : Fn w d cs cl A env L h₀) (O : Flown w A env L h₀ m l' e s.heap)
    (k : ∀ g' s', Same s s' → Turn A env h₀ g' → Fr g' L s'.heap m → Led g' L s'.heap l' → wpAny (model PG w) (A.mark (some (.ref e))) (execs (b₀ :: suite) env) Q E s')
    (hE : PassesOwnAt (model PG w) (A.mark (some (.ref e))) A env E) (hx : nok cs .globalImplicit (Str.ofString "DataFault") = true := by kernel_rfl) :
    wpAny (model PG w) A (noteFrame (.ref e) env)
      (fun _ s₂ => wpAny (model PG w) A (setFlight (.ref e) none) (fun _ s₃ =>
        wpAny (model PG w) A (handleBy (.ref e) env (.ExceptHandler (some (.Name (Str.ofString "DataFault") np)) none (b₀ :: suite) pos :: rest)) Q E s₃) E s₂) E s := by
  have hk := Γ.k
  obtain ⟨dp, un, gd, cn, a, ccd, outer, rfl, rfl, c, hd1, hu1⟩ := Γ
  obtain ⟨A₀, base, outer', p, loose, mean, mg, mb, G, t, vs, hfr, B, XB, TB, KD, FG, U, R, hnd⟩ := O
  obtain rfl : outer = outer' := by injection hfr with e; injection e
  exact caught_x (cd := ccd) (a := a) (name := cn) R rfl FG B U XB TB KD (KF := Mine.heap39 w.params) (x := Str.ofString "DataFault") (by kernel_rfl) (by kernel_rfl) (fun h' g' T F' N' B' D' => k g' _ ⟨rfl, rfl, rfl⟩ ⟨outer, rfl, T⟩ F' ⟨N', hnd⟩) hE hk (nok_of hx).1 (nok_of hx).2
end
end Mine
end
section
open PySem PySem.W PySem.Calls PyProof.Rows
namespace Mine
abbrev lst (ys : List Value) : Obj := W.listOf ys.toArray ys.length
theorem lst_snoc (ys : List Value) (y : Value) : ({ cls := .type "list", data := .seq (ys.toArray.push y) (ys.length + 1) } : Obj) = lst (ys ++ [y]) := LCg.lst_snoc ys y
abbrev tests (ifs : List PySem.Expr) (env : Env) : Sem Bool := forIn ifs true fun c r => if r = true then do let ok ← isTrue c env (eval c env); pure (ForInStep.yield ok) else pure (ForInStep.yield r)
/-- a turn of a list comprehension -/
def CompOk (h₀ : Heap) (L : Addr) (m : Str → Option Value) (I C D : Addr) (oI oC : Obj) (ys : List Value) (ex : List (Addr × Obj)) (J : List (Addr × Obj) → Prop) (s s₂ : Shared) : Prop :=
  ∃ l', Same s s₂ ∧ Fr h₀ L s₂.heap m ∧ Led h₀ L s₂.heap ((I, oI) :: (C, oC) :: (D, lst ys) :: l') ∧ (∀ p ∈ ex, p ∈ l') ∧ J l'
def Comps (prog : Program) (w : World) (A : Around) (h₀ : Heap) (env : Env) (L : Addr) (m : Str → Option Value) (x : Str) (ifs : List PySem.Expr) (elt : PySem.Expr) (scope : Scope) (cl : List (Str × Addr)) (Q : Value → Shared → Prop) (n : Nat) (P : Nat → Value → Prop) (ex l : List (Addr × Obj)) (s : Shared) : Prop :=
  ∃ J : Nat → List Value → List (Addr × Obj) → Prop, J 0 [] l ∧
    (∀ i v m₂ ys l₁ s₁ I oI C oC D (E' : Value → Shared → Prop), i < n → P i v → J i ys l₁ → (∀ p ∈ ex, p ∈ l₁) → Same s s₁ → Fr h₀ L s₁.heap m → LCg.NsObj oC m₂ → m₂ x = some v → Led h₀ L s₁.heap ((I, oI) :: (C, oC) :: (D, lst ys) :: l₁) →
      wpAny (model prog w) A (tests ifs (compEnvC scope cl C env)) (fun ok s₂ => if ok = true then wpAny (model prog w) A (eval elt (compEnvC scope cl C env)) (fun y s₃ => CompOk h₀ L m I C D oI oC ys ex (J (i + 1) (ys ++ [y])) s₁ s₃) E' s₂
        else CompOk h₀ L m I C D oI oC ys ex (J (i + 1) ys) s₁ s₂) E' s₁) ∧
    ∀ D s₁ ys l', J n ys l' → (∀ p ∈ ex, p ∈ l') → Same s s₁ → Fr h₀ L s₁.heap m → Led h₀ L s₁.heap ((D, lst ys) :: l') → Q (.ref D) s₁
section
variable {prog : Program} {w : World} {A : Around} {E : Value → Shared → Prop} {env : Env} {h₀ : Heap} {L : Addr} {m : Str → Option Value}
theorem comp_block {elt iter : PySem.Expr} {ifs : List PySem.Expr} {x : Str} {px : Pos} {scope : Scope} {cl : List (Str × Addr)} {pos : Pos} {s s₂ : Shared} {I : Addr} {ex l : List (Addr × Obj)} {n : Nat} {P : Nat → Value → Prop} {St : Nat → Heap → Prop} {Q : Value → Shared → Prop}
    (W : Walks prog w A I (I :: ex.map (·.1)) [I] n P St) (hsz : n ≤ 1000) (hIo : ∀ i h, St i h → ∃ o, h.get? I = some o)
    (hcell : ∀ y ∈ scope.names, y.2 ≠ .cell) (hkind : scope.kind = .function) (hx : scope.names.lookup x = some .local) (hst : St 0 s₂.heap)
    (F : Fr h₀ L s₂.heap m) (Λ : Led h₀ L s₂.heap l) (hIL : L ≠ I) (hI₀ : h₀.get? I = none) (off : ∀ p ∈ l, p.1 ≠ I) (hIlt : I < s₂.heap.objs.size) (hex : ∀ p ∈ ex, p ∈ l) (hs : Same s s₂)
    (H : Comps prog w A h₀ env L m x ifs elt scope cl Q n P ex l s) :
    wpAny (model prog w) A (newList []) (fun acc s₃ => wpAny (model prog w) A (newFunctionEnv scope env.globals cl [] env.qual none .none (some env)) (fun cenv s₄ =>
      codeAny (model prog w) A (.compStart (.ListComp elt [⟨.Name x px, iter, ifs, 0⟩] scope pos) 0 (.ref I) acc { cenv with scope := relabel scope env }) (compPost (model prog w) A E none Q acc cenv.locals) s₄) E s₃) E s₂ := by
  obtain ⟨J, j0, turn, fin⟩ := H
  refine wpAny_newObj_type (wpAny_newFunctionEnv hcell (by intro y hy; simp at hy) (fun h₁ hns₁ hsb₁ => ?_) hkind)
  dsimp only at hns₁ hsb₁ ⊢
  generalize hH2 : s₂.heap.push { cls := .type "list", dict := none, data := .seq ([] : List Value).toArray } = H2 at hns₁ hsb₁ ⊢
  have hC : H2.objs.size = s₂.heap.objs.size + 1 := by rw [← hH2, Heap.size_push]
  have hDC : s₂.heap.objs.size ≠ H2.objs.size := by rw [hC]; exact Nat.ne_of_lt (Nat.lt_succ_self _)
  have below : ∀ b, b < s₂.heap.objs.size → b ≠ H2.objs.size ∧ b ≠ s₂.heap.objs.size := fun b hb => ⟨by rw [hC]; exact Nat.ne_of_lt (Nat.lt_succ_of_lt hb), Nat.ne_of_lt hb⟩
  have hlt : ∀ p ∈ l, p.1 < s₂.heap.objs.size := fun p hp => Heap.lt_size (Λ.N p hp).1
  have hfp : ∀ b ∈ I :: ex.map (·.1), b < s₂.heap.objs.size := fun b hb => by
    rcases List.mem_cons.mp hb with rfl | hb
    · exact hIlt
    · obtain ⟨q, hq, rfl⟩ := List.mem_map.mp hb
      exact hlt q (hex q hq)
  have hDf : s₂.heap.objs.size ∉ I :: ex.map (·.1) := fun hm => Nat.lt_irrefl _ (hfp _ hm)
  have hCf : H2.objs.size ∉ I :: ex.map (·.1) := fun hm => by have := hfp _ hm; rw [hC] at this; exact Nat.lt_irrefl _ (Nat.lt_of_succ_lt this)
  have old : ∀ b o, s₂.heap.get? b = some o → h₁.get? b = some o := fun b o e => hsb₁.extBut b o (below b (Heap.lt_size e)).1 (Heap.get?_push_of_some _ (hH2 ▸ Heap.get?_push_of_some _ e))
  have hacc : h₁.get? s₂.heap.objs.size = some (lst []) := hsb₁.extBut _ _ hDC (Heap.get?_push_of_some _ (hH2 ▸ Heap.get?_push_size _ rfl))
  have hst₁ : St 0 h₁ := W.frame _ _ _ hst fun b _ o e => old b o e
  have fresh₀ : ∀ a, s₂.heap.objs.size ≤ a → h₀.get? a = none := fun a ha => by
    cases e : h₀.get? a with
    | none => rfl
    | some o' => exact absurd (Heap.lt_size (F.keep a o' e)) (Nat.not_lt.mpr ha)
  have hD₀ : h₀.get? s₂.heap.objs.size = none := fresh₀ _ (Nat.le_refl _)
  have hC₀ : h₀.get? H2.objs.size = none := fresh₀ _ (by rw [hC]; exact Nat.le_succ _)
  have hLlt : L < s₂.heap.objs.size := F.ns.lt
  have hDL : s₂.heap.objs.size ≠ L := Ne.symm (below L hLlt).2
  have hCL : H2.objs.size ≠ L := Ne.symm (below L hLlt).1
  have hCI : I ≠ H2.objs.size := (below I hIlt).1
  have hDI : I ≠ s₂.heap.objs.size := (below I hIlt).2
  have loop : ∀ s₃ : Shared, s₃ = { s₂ with heap := h₁, toks := s₂.toks + ([] : List (Str × Value)).length } →
      codeAny (model prog w) A (.compLoop (.ListComp elt [⟨.Name x px, iter, ifs, 0⟩] scope pos) 0 (.ref I) (.ref s₂.heap.objs.size) (compEnvC scope cl H2.objs.size env))
        (compPost (model prog w) A E none Q (.ref s₂.heap.objs.size) H2.objs.size) s₃ := by
    rintro s₃ rfl
    refine codeAny_compLoop_tests
      (fun k s' => ∃ i ys m' l', Same s s' ∧ i ≤ n ∧ k = n + 1 - i ∧ ys.length ≤ i ∧ St i s'.heap ∧ Fr h₀ L s'.heap m ∧ s'.heap.Ns H2.objs.size m' ∧ Led h₀ L s'.heap ((s₂.heap.objs.size, lst ys) :: l') ∧
        (∀ p ∈ l', p.1 ≠ I ∧ p.1 ≠ H2.objs.size) ∧ (∀ p ∈ ex, p ∈ l') ∧ J i ys l') ?_ (n + 1)
      ⟨0, [], _, l, hs.trans ⟨rfl, rfl, rfl⟩, Nat.zero_le _, rfl, Nat.le_refl _, hst₁, F.keeps old, hns₁, ⟨fun p hp => ?_, ?_⟩, fun p hp => ⟨off p hp, (below _ (hlt p hp)).1⟩, hex, j0⟩
    · rintro k s' ⟨i, ys, m', l', e', hi, rfl, hyl, hst', F', hn', Λ', off', hex', hJ⟩
      by_cases hlt : i < n
      · refine W.item i _ _ _ hlt hst' fun v h₂ tk₂ hPv hst₂ hk₂ => ?_
        refine wpAny_assign_Name (wpAny_storeName_local (lookup_relabel_local hx) (hn'.at' fun o e => hk₂ _ o (by simpa using Ne.symm hCI) e) (fun h₃ hn₃ hs₃ => ?_) (by simp [compEnvC, relabel, hkind]))
        have hst₃ : St (i + 1) h₃ := W.frame _ _ _ hst₂ fun b hb o e => hs₃.extBut b o (fun q => hCf (by have q' : b = H2.objs.size := q; rw [← q']; exact hb)) e
        obtain ⟨oI, heI⟩ := hIo _ _ hst₃
        obtain ⟨oC, heC, hoC⟩ := LCg.ns_obj hn₃
        have F₃ : Fr h₀ L h₃ m := (LCg.fr_but F' hk₂ hIL hI₀).change hs₃ hCL hC₀
        have N₂ : News h₀ L h₂ ((s₂.heap.objs.size, lst ys) :: l') := LCg.news_but Λ'.N hk₂ fun p hp => by
          rcases List.mem_cons.mp hp with rfl | hp
          · exact Ne.symm hDI
          · exact (off' p hp).1
        have N₃ : News h₀ L h₃ ((I, oI) :: (H2.objs.size, oC) :: (s₂.heap.objs.size, lst ys) :: l') := fun p hp => by
          rcases List.mem_cons.mp hp with rfl | hp
          · exact ⟨heI, Ne.symm hIL, hI₀⟩
          · rcases List.mem_cons.mp hp with rfl | hp
            · exact ⟨heC, hCL, hC₀⟩
            · have z := N₂ p hp
              refine ⟨hs₃.extBut _ _ ?_ z.1, z.2⟩
              rcases List.mem_cons.mp hp with rfl | hp
              · exact hDC
              · exact (off' p hp).2
        have Λ₃ : Led h₀ L h₃ ((I, oI) :: (H2.objs.size, oC) :: (s₂.heap.objs.size, lst ys) :: l') := ⟨N₃, by
          have hD := Λ'.D
          rw [List.map_cons, List.nodup_cons, List.map_cons, List.nodup_cons]
          refine ⟨fun hm => ?_, fun hm => ?_, hD⟩
          · rcases List.mem_cons.mp hm with e | hm
            · exact hCI e
            · obtain ⟨q, hq, e⟩ := List.mem_map.mp hm
              rcases List.mem_cons.mp hq with rfl | hq
              · exact hDI e.symm
              · exact (off' q hq).1 e
          · obtain ⟨q, hq, e⟩ := List.mem_map.mp hm
            rcases List.mem_cons.mp hq with rfl | hq
            · exact hDC e
            · exact (off' q hq).2 e⟩
        refine wpAny_mono (turn i v _ ys l' _ I oI H2.objs.size oC s₂.heap.objs.size (notedBy (model prog w) A (compEnvC scope cl H2.objs.size env) fun e s' => compPost (model prog w) A E none Q (.ref s₂.heap.objs.size) H2.objs.size (.error e) s')
          hlt hPv hJ hex' (e'.trans ⟨rfl, rfl, rfl⟩) F₃ hoC (by simp) Λ₃) (fun ok s₄ h₄ => ?_) fun _ _ e => e
        cases ok with
        | false =>
          obtain ⟨l₄, e₄, F₄, Λ₄, hex₄, hJ₄⟩ := h₄
          refine ⟨n + 1 - (i + 1), by omega, i + 1, ys, _, l₄, e'.trans e₄, hlt, rfl, by omega, ?_, F₄, hoC.ns (Λ₄.get (.tail _ (.head _))), Λ₄.tail.tail, fun p hp => ⟨Λ₄.ne p (.tail _ (.tail _ hp)), Λ₄.tail.ne p (.tail _ hp)⟩, hex₄, hJ₄⟩
          refine W.frame _ _ _ hst₃ fun b hb o e => ?_
          rcases List.mem_cons.mp hb with rfl | hb
          · have : o = oI := by rw [heI] at e; exact (Option.some.inj e).symm
            rw [this]; exact Λ₄.get (.head _)
          · obtain ⟨q, hq, rfl⟩ := List.mem_map.mp hb
            have h1 := (N₃ q (.tail _ (.tail _ (.tail _ (hex' q hq))))).1
            have : o = q.2 := by have := h1.symm.trans e; exact (Option.some.inj this).symm
            rw [this]; exact (Λ₄.N q (.tail _ (.tail _ (.tail _ (hex₄ q hq))))).1
        | true =>
          simp only [if_true] at h₄ ⊢
          refine wpAny_mono h₄ (fun y s₅ h₅ => ?_) fun _ _ e => e
          obtain ⟨l₄, e₄, F₄, Λ₄, hex₄, hJ₄⟩ := h₅
          have hst₄ : St (i + 1) s₅.heap := by
            refine W.frame _ _ _ hst₃ fun b hb o e => ?_
            rcases List.mem_cons.mp hb with rfl | hb
            · have : o = oI := by rw [heI] at e; exact (Option.some.inj e).symm
              rw [this]; exact Λ₄.get (.head _)
            · obtain ⟨q, hq, rfl⟩ := List.mem_map.mp hb
              have h1 := (N₃ q (.tail _ (.tail _ (.tail _ (hex' q hq))))).1
              have : o = q.2 := by have := h1.symm.trans e; exact (Option.some.inj this).symm
              rw [this]; exact (Λ₄.N q (.tail _ (.tail _ (.tail _ (hex₄ q hq))))).1
          refine append_at (hsz := by show ys.toArray.size ≤ sizeLine; rw [List.size_toArray, sizeLine_eq]; omega) (Λ₄.get (.tail _ (.tail _ (.head _)))) fun h₅ hs₅ hD₅ => ?_
          refine ⟨n + 1 - (i + 1), by omega, i + 1, ys ++ [y], _, l₄, (e'.trans e₄).trans ⟨rfl, rfl, rfl⟩, hlt, rfl, by rw [List.length_append, List.length_singleton]; omega, W.frame _ _ _ hst₄ fun b hb o e => hs₅.extBut b o (fun q => hDf (q ▸ hb)) e, F₄.change hs₅ hDL hD₀,
            (hoC.ns (Λ₄.get (.tail _ (.head _)))).sameBut hs₅ (Ne.symm hDC), ⟨fun p hp => ?_, Λ₄.tail.tail.D⟩, fun p hp => ⟨Λ₄.ne p (.tail _ (.tail _ hp)), Λ₄.tail.ne p (.tail _ hp)⟩, hex₄, hJ₄⟩
          rcases List.mem_cons.mp hp with rfl | hp
          · exact ⟨hD₅.trans (congrArg some (lst_snoc ys y)), hDL, hD₀⟩
          · have z := Λ₄.tail.tail.N p (.tail _ hp)
            exact ⟨hs₅.extBut _ _ (Λ₄.tail.tail.ne p hp) z.1, z.2⟩
      · obtain rfl : i = n := Nat.le_antisymm hi (Nat.not_lt.mp hlt)
        refine W.done _ _ _ hst' fun h₂ tk₂ hk₂ => ?_
        have F₂ := LCg.fr_but F' hk₂ hIL hI₀
        have N₂ : News h₀ L h₂ ((s₂.heap.objs.size, lst ys) :: l') := LCg.news_but Λ'.N hk₂ fun p hp => by
          rcases List.mem_cons.mp hp with rfl | hp
          · exact Ne.symm hDI
          · exact (off' p hp).1
        refine ⟨_, hn'.at' fun o e => hk₂ _ o (by simpa using Ne.symm hCI) e, fun h'' hs'' => fin _ _ ys l' hJ hex' (e'.trans ⟨rfl, rfl, rfl⟩) (F₂.change hs'' hCL hC₀) ⟨fun p hp => ?_, Λ'.D⟩⟩
        refine ⟨hs''.extBut _ _ ?_ (N₂ p hp).1, (N₂ p hp).2⟩
        rcases List.mem_cons.mp hp with rfl | hp
        · exact hDC
        · exact (off' p hp).2
    · rcases List.mem_cons.mp hp with rfl | hp
      · exact ⟨hacc, hDL, hD₀⟩
      · exact ⟨old _ _ (Λ.N p hp).1, (Λ.N p hp).2⟩
    · show (_ :: _ : List Addr).Nodup
      rw [List.nodup_cons]
      refine ⟨fun hm => ?_, Λ.D⟩
      obtain ⟨q, hq, e⟩ := List.mem_map.mp hm
      exact (below _ (hlt q hq)).2 e
  exact codeAny_compStart_list (loop _ rfl) (W.self 0 _ _ _ hst₁ (loop _ rfl))
end
end Mine
end
section
open PySem PySem.W PySem.Calls PyProof.Rows
namespace Mine
def closOf (cl : List (Str × Addr)) : List (Str × NameKind) → List (Str × Addr) → Option (List (Str × Addr))
  | [], acc => some acc
  | (n, k) :: r, acc => if k == .free then match cl.lookup n with
    | some a => closOf cl r ((n, a) :: acc)
    | none => none else closOf cl r acc
theorem closOf_for {env : Env} (f : Str × NameKind → List (Str × Addr) → Sem (ForInStep (List (Str × Addr)))) (hf : ∀ n k c, f (n, k) c = if (k == NameKind.free) = true then (do let a ← cellOf env n; pure (.yield ((n, a) :: c))) else pure (.yield c)) :
    ∀ {names : List (Str × NameKind)} {acc r : List (Str × Addr)}, closOf env.cells names acc = some r → forIn names acc f = (pure r : Sem _)
  | [], acc, r, h => by
    rw [List.forIn_nil]
    exact congrArg pure (Option.some.inj h)
  | (n, k) :: rs, acc, r, h => by
    rw [List.forIn_cons, hf]
    unfold closOf at h
    cases hk : (k == NameKind.free) with
    | false =>
      rw [hk] at h
      simp only [Bool.false_eq_true, if_false] at h ⊢
      exact closOf_for f hf h
    | true =>
      rw [hk] at h
      simp only [if_true] at h ⊢
      unfold cellOf
      cases hl : env.cells.lookup n with
      | none => rw [hl] at h; cases h
      | some a => rw [hl] at h; exact closOf_for f hf h
theorem clos_for {scope : Scope} {env : Env} {r : List (Str × Addr)} (h : closOf env.cells scope.names [] = some r) : closureFor scope env = pure r := by
  simp only [closureFor]
  rw [closOf_for (env := env) _ (fun n k c => ?_) h]
  · rfl
  · rfl
theorem look_relabel {env : Env} {x : Str} {q : NameKind} (hq : q ≠ .free) : ∀ {names : List (Str × NameKind)}, names.lookup x = some q →
    (names.map fun (n, k) => if (k == NameKind.free && env.scope.kind == .function && env.kindOf n == some .cell) then (n, NameKind.cell) else (n, k)).lookup x = some q
  | [], h => by simp at h
  | (n, k) :: r, h => by
    show List.lookup x ((if (k == NameKind.free && env.scope.kind == .function && env.kindOf n == some .cell) = true then (n, NameKind.cell) else (n, k)) :: _) = _
    cases hx : x == n with
    | true =>
      simp only [List.lookup_cons, hx] at h
      cases h
      have : (q == NameKind.free) = false := by simpa using hq
      simp [List.lookup_cons, hx, this]
    | false =>
      simp only [List.lookup_cons, hx] at h
      by_cases hc : (k == NameKind.free && env.scope.kind == .function && env.kindOf n == some .cell) = true
      · rw [if_pos hc]; simp only [List.lookup_cons, hx]; exact look_relabel hq h
      · rw [if_neg hc]; simp only [List.lookup_cons, hx]; exact look_relabel hq h
theorem look_relabel_free {env : Env} {x : Str} (hk : env.scope.kind = .function) (hc : env.kindOf x = some .cell) : ∀ {names : List (Str × NameKind)}, names.lookup x = some .free →
    (names.map fun (n, k) => if (k == NameKind.free && env.scope.kind == .function && env.kindOf n == some .cell) then (n, NameKind.cell) else (n, k)).lookup x = some .cell
  | [], h => by simp at h
  | (n, k) :: r, h => by
    show List.lookup x ((if (k == NameKind.free && env.scope.kind == .function && env.kindOf n == some .cell) = true then (n, NameKind.cell) else (n, k)) :: _) = _
    cases hx : x == n with
    | true =>
      simp only [List.lookup_cons, hx] at h
      cases h
      obtain rfl : x = n := by simpa using hx
      simp [hk, hc]
    | false =>
      simp only [List.lookup_cons, hx] at h
      by_cases hc' : (k == NameKind.free && env.scope.kind == .function && env.kindOf n == some .cell) = true
      · rw [if_pos hc']; simp only [List.lookup_cons, hx]; exact look_relabel_free hk hc h
      · rw [if_neg hc']; simp only [List.lookup_cons, hx]; exact look_relabel_free hk hc h
section
variable {w : World} {d : Nat} {cs : Scope} {cl : List (Str × Addr)} {A : Around} {env : Env} {L : Addr} {h₀ : Heap} {m : Str → Option Value} {R l : List (Addr × Obj)} {s : Shared} {E : Value → Shared → Prop} {x : Str} {p p2 : Pos} {v : Value} {scope : Scope} {clc : List (Str × Addr)} {C : Addr} {oC : Obj} {m₂ : Str → Option Value}
theorem Fn.clos (Γ : Fn w d cs cl A env L h₀) (h : closOf cl scope.names [] = some clc) : closureFor scope env = pure clc := by
  obtain ⟨_, _, _, _, _, _, _, rfl, rfl, c, _⟩ := Γ
  exact clos_for h
theorem c_lcl {Q : Value → Shared → Prop} (N : News h₀ L s.heap l) (hm : (C, oC) ∈ l) (hC : LCg.NsObj oC m₂) (hv : m₂ x = some v) (h : Q v s) (hx : nok scope .local x = true := by kernel_rfl) (hk : scope.kind = .function := by rfl) :
    wpAny (model PG w) A (eval (.Name x p) (compEnvC scope clc C env)) Q E s :=
  LCgL.ld_own N hm hC hv h hk (look_relabel (by decide) (nok_of hx).1) (nok_of hx).2
theorem Fn.cGlb {Q : Value → Shared → Prop} (Γ : Fn w d cs cl A env L h₀) (F : Fr h₀ L s.heap m) (v : Value) (h : Q v s) (e : nsIn (Mine.heap39 w.params) mainGlobals x = some (some v) := by kernel_rfl) (hx : nok scope .globalImplicit x = true := by kernel_rfl) (hk : scope.kind = .function := by rfl) :
    wpAny (model PG w) A (eval (.Name x p) (compEnvC scope clc C env)) Q E s := by
  obtain ⟨_, _, _, _, _, _, _, rfl, rfl, c, _⟩ := Γ
  obtain ⟨_, _, _, _, _, _, _, _, X, T, _⟩ := c
  exact LCgL.ld_global F X T e h rfl hk (look_relabel (by decide) (nok_of hx).1) (nok_of hx).2
theorem Fn.cBlt {Q : Value → Shared → Prop} (Γ : Fn w d cs cl A env L h₀) (F : Fr h₀ L s.heap m) (hv : bootBuiltins x = some v) (h : Q v s) (e : nsIn (Mine.heap39 w.params) mainGlobals x = some none := by kernel_rfl) (hn : x ≠ "__name__" := by decide +kernel)
    (hx : nok scope .globalImplicit x = true := by kernel_rfl) (hk : scope.kind = .function := by rfl) : wpAny (model PG w) A (eval (.Name x p) (compEnvC scope clc C env)) Q E s := by
  obtain ⟨_, _, _, _, _, _, _, rfl, rfl, c, _⟩ := Γ
  obtain ⟨_, _, _, _, _, _, _, _, X, T, _⟩ := c
  exact LCgL.ld_built F X T e hv hn h rfl rfl hk (look_relabel (by decide) (nok_of hx).1) (nok_of hx).2
/-- a name of the comprehension's that is a cell of the def's -/
theorem Fn.cFree {Q : Value → Shared → Prop} {c : Addr} {o : Obj} (Γ : Fn w d cs cl A env L h₀) (N : News h₀ L s.heap l) (hc : clc.lookup x = some c) (hm : (c, o) ∈ l) (hd : o.data = .cell (some v)) (h : Q v s) (hcx : nok cs .cell x = true := by kernel_rfl) (hx : nok scope .free x = true := by kernel_rfl) (hk : scope.kind = .function := by rfl) :
    wpAny (model PG w) A (eval (.Name x p) (compEnvC scope clc C env)) Q E s := by
  have hk' := Γ.k
  obtain ⟨_, _, _, _, _, _, _, rfl, rfl, _⟩ := Γ
  exact lcf_cell N hc hm hd h hk (look_relabel_free (env := envX _ cs _ _ _ cl) hk' (nok_of hcx).1 (nok_of hx).1) (nok_of hx).2
theorem Fn.cCallK {e : PySem.Expr} {rest : List PySem.Expr} {Q : Value → Shared → Prop} (Γ : Fn w d cs cl A env L h₀) (F : Fr h₀ L s.heap m) (v : Value)
    (h : wpAny (model PG w) A (spliced (backTo p2 (starEach (e :: rest) (compEnvC scope clc C env)))) (fun vs s₁ => (∃ m', Fr h₀ L s₁.heap m') ∧ wpAny (model PG w) A (call v vs) Q E s₁) E s)
    (e' : nsIn (Mine.heap39 w.params) mainGlobals x = some (some v) := by kernel_rfl) (hkp : keepIn (Mine.heap39 w.params) v = true := by kernel_rfl) (hx : nok scope .globalImplicit x = true := by kernel_rfl) (hk : scope.kind = .function := by rfl)
    (he : starEach (e :: rest) (compEnvC scope clc C env) = (false, eval e (compEnvC scope clc C env)) :: starEach rest (compEnvC scope clc C env) := by rfl) (hplain : (backTo p2 (starEach rest (compEnvC scope clc C env))).any (·.1) = false := by rfl) :
    wpAny (model PG w) A (eval (.Call (.Name x p) (e :: rest) [] p2) (compEnvC scope clc C env)) Q E s :=
  wpAny_Call_ofName (Γ.cGlb F v (callWith_K Γ.X hkp (wpAny_mono h (fun _ _ z => ⟨let ⟨_, F'⟩ := z.1; Γ.X.keeps F'.keep, z.2⟩) fun _ _ z => z) he hplain) e' hx hk)
theorem Fn.cCallT1 {id : String} {e : PySem.Expr} {Q : Value → Shared → Prop} (Γ : Fn w d cs cl A env L h₀) (F : Fr h₀ L s.heap m) (hv : bootBuiltins x = some (.type id)) (h : wpAny (model PG w) A (eval e (compEnvC scope clc C env)) (fun v s₁ => wpAny (model PG w) A (call (.type id) [v]) Q E s₁) E s)
    (e' : nsIn (Mine.heap39 w.params) mainGlobals x = some none := by kernel_rfl) (hn : x ≠ "__name__" := by decide +kernel) (hx : nok scope .globalImplicit x = true := by kernel_rfl) (hk : scope.kind = .function := by rfl)
    (he : starEach [e] (compEnvC scope clc C env) = (false, eval e (compEnvC scope clc C env)) :: starEach [] (compEnvC scope clc C env) := by rfl) : wpAny (model PG w) A (eval (.Call (.Name x p) [e] [] p2) (compEnvC scope clc C env)) Q E s :=
  wpAny_Call_ofName (Γ.cBlt F hv (by rw [he]; exact PySem.callWith_type1 h) e' hn hx hk)
/-- a cell name of the def's own -/
theorem Fn.cel {Q : Value → Shared → Prop} {c : Addr} {o : Obj} (Γ : Fn w d cs cl A env L h₀) (N : News h₀ L s.heap l) (hc : cl.lookup x = some c) (hm : (c, o) ∈ l) (hd : o.data = .cell (some v)) (h : Q v s) (hx : nok cs .cell x = true := by kernel_rfl) :
    wpAny (model PG w) A (eval (.Name x p) env) Q E s := by
  have hk' := Γ.k
  obtain ⟨_, _, _, _, _, _, _, rfl, rfl, _⟩ := Γ
  exact nameX_C N hc hm hd h hk' (nok_of hx).1 (nok_of hx).2
/-- a cell name of the def's own is stored -/
theorem Fn.stC {Q : Unit → Shared → Prop} {c : Addr} {o : Obj} {v₀ : Option Value} (Γ : Fn w d cs cl A env L h₀) (F : Fr h₀ L s.heap m) (Λ : Led h₀ L s.heap ((c, o) :: l)) (hc : cl.lookup x = some c) (hd : o.data = .cell v₀)
    (h : ∀ s' o', Same s s' → Fr h₀ L s'.heap m → Led h₀ L s'.heap ((c, o') :: l) → o'.data = .cell (some v) → Q () s') (hx : nok cs .cell x = true := by kernel_rfl) : wpAny (model PG w) A (storeName env x v) Q E s := by
  have hk' := Γ.k
  obtain ⟨_, _, _, _, _, _, _, rfl, rfl, _⟩ := Γ
  exact storeX_C F Λ.N hc (.head Λ.ne) hd (fun h' o' F' N' e => h _ o' ⟨rfl, rfl, rfl⟩ F' ⟨N', Λ.D⟩ e) hk' (nok_of hx).1
end
end Mine
end
section
open PySem PySem.W PySem.Calls PyProof.Rows
namespace Mine
section
variable {w : World} {d : Nat} {cs : Scope} {cl : List (Str × Addr)} {A : Around} {env : Env} {L : Addr} {h₀ : Heap} {m : Str → Option Value} {R l : List (Addr × Obj)} {s : Shared} {E : Value → Shared → Prop}
def compNames (x : Str) (scope : Scope) : Bool := scope.kind == .function && scope.names.all (fun y => y.2 != .cell && (y.2 != .local || scope.names.lookup y.1 == some .local)) && scope.names.lookup x == some .local
theorem compNames_of {x : Str} {scope : Scope} (h : compNames x scope = true) : (∀ y ∈ scope.names, y.2 ≠ .cell) ∧ scope.kind = .function ∧ (∀ y ∈ scope.names, y.2 = .local → scope.names.lookup y.1 = some .local) ∧ scope.names.lookup x = some .local := by
  unfold compNames at h
  simp only [Bool.and_eq_true, beq_iff_eq, List.all_eq_true] at h
  obtain ⟨⟨a, b⟩, c⟩ := h
  refine ⟨fun y hy e => ?_, a, fun y hy e => ?_, c⟩
  · have := (b y hy).1
    rw [e] at this
    exact absurd this (by decide)
  · have := (b y hy).2
    rw [e] at this
    simpa using this
/-- [.. for x in <a list of the ledger> ..] -/
theorem Fn.compL {elt iter : PySem.Expr} {ifs : List PySem.Expr} {x : Str} {px pos : Pos} {scope : Scope} {clc : List (Str × Addr)} {Q : Value → Shared → Prop} (Γ : Fn w d cs cl A env L h₀) (hclos : closOf cl scope.names [] = some clc)
    (h : wpAny (model PG w) A (eval iter env) (fun v s₁ => ∃ (D : Addr) (vs : List Value) (n : Nat) (m : Str → Option Value) (l : List (Addr × Obj)), v = .ref D ∧ (D, W.listOf vs.toArray n) ∈ l ∧ vs.length ≤ 1000 ∧ Fr h₀ L s₁.heap m ∧ Led h₀ L s₁.heap l ∧
      Comps PG w A h₀ env L m x ifs elt scope clc Q vs.length (fun i v => vs[i]? = some v) [(D, W.listOf vs.toArray n)] l s₁) E s)
    (hn : compNames x scope = true := by kernel_rfl) (hs : ∀ x, foldedSetIterable iter env x = pure x := by intro _; rfl) :
    wpAny (model PG w) A (eval (.ListComp elt [⟨.Name x px, iter, ifs, 0⟩] scope pos) env) Q E s := by
  obtain ⟨n1, n2, n3, n4⟩ := compNames_of hn
  have mh : A.handled = none := Γ.handled
  rw [eval_ListComp]
  refine wpAny_comprehension_free (use := none) rfl hs (Γ.clos hclos) n2 n3 (wpAny_mono h (fun xv s₁ h₁ => ?_) fun _ _ e => e)
  obtain ⟨D, vs, n, m, l, rfl, hD, hz, F, Λ, H⟩ := h₁
  have hl : s₁.heap.IsList D vs.toArray := ⟨_, Λ.get hD, rfl, _, rfl⟩
  refine wpAny_pyIter_list hl ?_
  have hlt : ∀ p ∈ l, p.1 < s₁.heap.objs.size := fun p hp => Heap.lt_size (Λ.N p hp).1
  have W' := Walks.list (prog := PG) (w := w) mh s₁.heap.objs.size D (Nat.ne_of_lt (hlt _ hD)) vs.toArray
  have e1 : vs.toArray.size = vs.length := by simp
  have e2 : (fun (i : Nat) v => vs.toArray[i]? = some v) = fun i v => vs[i]? = some v := by funext i v; simp
  rw [e1, e2] at W'
  refine comp_block (ex := [(D, W.listOf vs.toArray n)]) W' hz (fun i h ⟨⟨o, ho, _⟩, _⟩ => ⟨o, ho⟩) n1 n2 n4 ⟨⟨_, Heap.get?_push_size _ rfl, rfl, rfl⟩, hl.at fun o e => Heap.get?_push_of_some _ e⟩ (F.push _) ⟨fun p hp => ⟨Heap.get?_push_of_some _ (Λ.N p hp).1, (Λ.N p hp).2⟩, Λ.D⟩
    (fun e => absurd F.ns.lt (e ▸ Nat.lt_irrefl _)) (next_is_new F) (fun p hp => Nat.ne_of_lt (hlt p hp)) (by show _ < (s₁.heap.push _).objs.size; rw [Heap.size_push]; exact Nat.lt_succ_self _) (fun p hp => by rw [List.mem_singleton.mp hp]; exact hD) ⟨rfl, rfl, rfl⟩ H
/-- [.. for x in range(e) ..] -/
theorem Fn.compR {elt e : PySem.Expr} {ifs : List PySem.Expr} {x : Str} {px pr pc pos : Pos} {scope : Scope} {clc : List (Str × Addr)} {Q : Value → Shared → Prop} (Γ : Fn w d cs cl A env L h₀) (F : Fr h₀ L s.heap m) (hclos : closOf cl scope.names [] = some clc)
    (h : wpAny (model PG w) A (eval e env) (fun v s₁ => ∃ (n : Nat) (t : Tok) (m : Str → Option Value) (l : List (Addr × Obj)), v = .int n t ∧ n < 1000 ∧ Fr h₀ L s₁.heap m ∧ Led h₀ L s₁.heap l ∧
      Comps PG w A h₀ env L m x ifs elt scope clc Q n (fun i v => ∃ t, v = .int i t) [] l s₁) E s)
    (hn : compNames x scope = true := by kernel_rfl) (hr : nok cs .globalImplicit (Str.ofString "range") = true := by kernel_rfl) (he : starEach [e] env = (false, eval e env) :: starEach [] env := by rfl)
    (hs : ∀ x, foldedSetIterable (.Call (.Name (Str.ofString "range") pr) [e] [] pc) env x = pure x := by intro _; rfl) :
    wpAny (model PG w) A (eval (.ListComp elt [⟨.Name x px, .Call (.Name (Str.ofString "range") pr) [e] [] pc, ifs, 0⟩] scope pos) env) Q E s := by
  obtain ⟨n1, n2, n3, n4⟩ := compNames_of hn
  have mh : A.handled = none := Γ.handled
  rw [eval_ListComp]
  refine wpAny_comprehension_free (use := none) rfl hs (Γ.clos hclos) n2 n3 (Γ.callT1 F range_boot (wpAny_mono h (fun v s₁ h₁ => ?_) fun _ _ e => e) (hx := hr) (he := he))
  obtain ⟨n, t, m, l, rfl, hn, F, Λ, H⟩ := h₁
  refine range1_rows F Λ.N fun h' tk t₁ u₁ v₁ hR F' N' hk' => ?_
  have hsz := rangeSize_n n
  have hsmall := small_n (n := n) (by omega)
  refine wpAny_pyIter_range hR hsmall ?_
  have hlt : ∀ p ∈ l, p.1 < h'.objs.size := fun p hp => Heap.lt_size (N' p hp).1
  have W' : Walks PG w A h'.objs.size (h'.objs.size :: ([] : List (Addr × Obj)).map (·.1)) [h'.objs.size] n (fun i v => ∃ t, v = .int (i : Int) t) (fun i h => IsRangeIter h h'.objs.size (0 + (i : Nat) * 1) ((n : Int) - (i : Nat)) 1) := by
    have := Walks.range (prog := PG) (w := w) mh h'.objs.size 0 1 n
    have e3 : (fun (i : Nat) v => ∃ t, v = Value.int (0 + (i : Int) * 1) t) = fun i v => ∃ t, v = .int (i : Int) t := by funext i v; simp
    rw [e3] at this
    exact this
  refine comp_block (s := s₁) W' (by omega) (fun i h hi => ⟨_, hi⟩) n1 n2 n4 (by show IsRangeIter _ _ _ _ _; rw [hsz]; simpa using Heap.get?_push_size _ rfl) (F'.push _) ⟨fun p hp => ⟨Heap.get?_push_of_some _ (N' p hp).1, (N' p hp).2⟩, Λ.D⟩
    (fun e => absurd F'.ns.lt (e ▸ Nat.lt_irrefl _)) (next_is_new F') (fun p hp => Nat.ne_of_lt (hlt p hp)) (by show _ < (h'.push _).objs.size; rw [Heap.size_push]; exact Nat.lt_succ_self _) (fun p hp => nomatch hp) ⟨rfl, rfl, rfl⟩ H
theorem comps {Q : Value → Shared → Prop} {x : Str} {elt : PySem.Expr} {scope : Scope} {clc : List (Str × Addr)} {n : Nat} {P : Nat → Value → Prop} {ex : List (Addr × Obj)} (J : Nat → List Value → List (Addr × Obj) → Prop) (j0 : J 0 [] l)
    (turn : ∀ i v m₂ ys l₁ s₁ I oI C oC D (E' : Value → Shared → Prop), i < n → P i v → J i ys l₁ → (∀ p ∈ ex, p ∈ l₁) → Same s s₁ → Fr h₀ L s₁.heap m → LCg.NsObj oC m₂ → m₂ x = some v → Led h₀ L s₁.heap ((I, oI) :: (C, oC) :: (D, lst ys) :: l₁) →
      wpAny (model PG w) A (eval elt (compEnvC scope clc C env)) (fun y s₃ => CompOk h₀ L m I C D oI oC ys ex (J (i + 1) (ys ++ [y])) s₁ s₃) E' s₁)
    (fin : ∀ D s₁ ys l', J n ys l' → (∀ p ∈ ex, p ∈ l') → Same s s₁ → Fr h₀ L s₁.heap m → Led h₀ L s₁.heap ((D, lst ys) :: l') → Q (.ref D) s₁) :
    Comps PG w A h₀ env L m x [] elt scope clc Q n P ex l s :=
  ⟨J, j0, fun i v m₂ ys l₁ s₁ I oI C oC D E' a b c d e f g hh i => wpAny_tests_nil (turn _ v m₂ ys l₁ s₁ I oI C oC D E' a b c d e f g hh i), fin⟩
end
end Mine
end
section
open PySem PySem.W PySem.Calls PyProof.Rows
namespace Mine
theorem valueAt_mem {k : Str} {v : Value} : ∀ {kvs : List (Str × Value)}, (kvs.map (·.1)).Nodup → (k, v) ∈ kvs → valueAt kvs k = some v
  | q :: r, hd, hm => by
    rw [List.map_cons, List.nodup_cons] at hd
    unfold valueAt
    rcases List.mem_cons.mp hm with rfl | hm
    · rw [List.find?_cons_of_pos (by simp)]; rfl
    · have : ¬ (q.1 = k) := fun e => hd.1 (List.mem_map.mpr ⟨(k, v), hm, e.symm⟩)
      rw [List.find?_cons_of_neg (by simpa using this)]
      exact valueAt_mem hd.2 hm
theorem valueAt_some {k : Str} {kvs : List (Str × Value)} : (valueAt kvs k).isSome = true ↔ k ∈ kvs.map (·.1) := by
  unfold valueAt
  rw [Option.isSome_map, List.find?_isSome, List.mem_map]
  exact ⟨fun ⟨q, h, e⟩ => ⟨q, h, of_decide_eq_true e⟩, fun ⟨q, h, e⟩ => ⟨q, h, decide_eq_true e⟩⟩
theorem Led.sub {h₀ h : Heap} {L : Addr} {l l' : List (Addr × Obj)} (x : Led h₀ L h l) (e : l'.Sublist l) : Led h₀ L h l' := ⟨fun q hq => x.N q (e.subset hq), (e.map _).nodup x.D⟩
/-- a FileSpec of the ledger -/
structure Sp where
  name : Str
  x : Addr
  dx : Addr
  vs : List (Str × Value)
  tf : Nat → Tok
abbrev Sp.dE (P : Params) (sp : Sp) : Addr × Obj := (sp.dx, dictOf (entsD P sp.tf sp.vs) 10)
def spE (P : Params) (l : List Sp) : List (Addr × Obj) := l.map (Sp.dE P)
abbrev Sp.kv (sp : Sp) : Str × Value := (sp.name, .ref sp.x)
abbrev Sp.key (sp : Sp) : Str × Addr × Addr := (sp.name, sp.x, sp.dx)
def SpIn (R : List (Addr × Obj)) (sp : Sp) : Prop := (sp.x, instObj 213 sp.dx) ∈ R ∧ FileRec sp.vs
theorem perm_sp (P : Params) (a b : List Sp) (sp : Sp) (RR : List (Addr × Obj)) : (spE P (a ++ sp :: b) ++ RR).Perm (sp.dE P :: (spE P a ++ (spE P b ++ RR))) := by
  unfold spE
  rw [List.map_append, List.map_cons, List.append_assoc]
  exact List.perm_middle
theorem kv_key {a b : List Sp} (h : a.map Sp.key = b.map Sp.key) : a.map Sp.kv = b.map Sp.kv := by
  have e : ∀ l : List Sp, l.map Sp.kv = (l.map Sp.key).map fun q => (q.1, Value.ref q.2.1) := fun l => by rw [List.map_map]; rfl
  rw [e, e, h]
theorem kv_names (l : List Sp) : (l.map Sp.kv).map (·.1) = l.map Sp.name := by rw [List.map_map]; rfl
theorem perm_q {α : Type} (q a b d : List α) : (q ++ (a ++ (b ++ d))).Perm (a ++ (b ++ (q ++ d))) := (List.perm_append_comm_assoc q a (b ++ d)).trans ((List.perm_append_comm_assoc q b d).append_left a)
/-- what a file is told -/
def Told (R : List (Addr × Obj)) (fts : List (Str × List Tr)) (sos : List Str) (sp : Sp) : Prop :=
  ∃ ts q vs, (sp.name, ts) ∈ fts ∧ sp.vs.lookup (Str.ofString "records") = some (.ref q) ∧ (q, tupOf vs) ∈ R ∧ StrsAre vs (ts.map (·.2.1)) ∧ sp.vs.lookup (Str.ofString "is_sort") = some (.bool (sos.any (· == sp.name)))
theorem Told.mono {R R' : List (Addr × Obj)} {fts : List (Str × List Tr)} {sos : List Str} {sp : Sp} (h : ∀ p ∈ R, p ∈ R') (t : Told R fts sos sp) : Told R' fts sos sp := by
  obtain ⟨ts, q, vs, a, b, c, d⟩ := t
  exact ⟨ts, q, vs, a, b, h _ c, d⟩
/-- a Data of the ledger: its files and which are sorted -/
def DataX (w : World) (nms : List Str) (R : List (Addr × Obj)) (x : Addr) (fts : List (Str × List Tr)) (sos : List Str) : Prop :=
  ∃ dx vs tf wl ll fd sl o kvs svs ns, (x, instObj 159 dx) ∈ R ∧ (dx, dictOf (entsD w.params tf vs) 6) ∈ R ∧ DataRec vs wl ll fd sl ∧ (fd, o) ∈ R ∧ IsD w o kvs ∧ (fd == sysModules) = false ∧ FilesIn w.params nms R kvs fts ∧ (sl, W.listOf svs.toArray ns) ∈ R ∧ StrsAre svs sos ∧ fts.length ≤ 5
section
variable {w : World} {d : Nat} {cs : Scope} {cl : List (Str × Addr)} {A : Around} {env : Env} {L : Addr} {h₀ : Heap} {m : Str → Option Value} {R l : List (Addr × Obj)} {s : Shared} {E : Value → Shared → Prop}
theorem Fn.setR {sp : Sp} {at' : Str} {v : Value} {Q : Unit → Shared → Prop} (Γ : Fn w d cs cl A env L h₀) (F : Fr h₀ L s.heap m) (Λ : Led h₀ L s.heap (sp.dE w.params :: R)) (hi : (sp.x, instObj 213 sp.dx) ∈ R) (hz : sp.vs.length = 10) (hl : (sp.vs.lookup at').isSome = true)
    (ret : ∀ tf s', Same s s' → Fr h₀ L s'.heap m → Led h₀ L s'.heap ((sp.dx, dictOf (entsD w.params tf (putV at' v sp.vs)) 10) :: R) → Q () s') (hp : plainAttr (Mine.heap39 w.params) 213 at' = true := by kernel_rfl) :
    wpAny (model PG w) A (setAttr (.ref sp.x) at' v) Q E s := by
  refine set_rec (news' := fun tf => (sp.dx, dictOf (entsD w.params tf (putV at' v sp.vs)) 10) :: R) F Γ.X Λ.N (.tail _ hi) (.head _) hp (by omega) (fun tf => ?_) fun h₂ tf₂ F₂ N₂ => ret tf₂ _ ⟨rfl, rfl, rfl⟩ F₂ (Λ.upd N₂)
  rw [if_pos hl]
  exact .head Λ.ne
theorem tupOf_l {Q : Value → Shared → Prop} {D : Addr} {vs : List Value} {n : Nat} (F : Fr h₀ L s.heap m) (Λ : Led h₀ L s.heap l) (hm : (D, W.listOf vs.toArray n) ∈ l) (hz : vs.length ≤ 1000)
    (ret : ∀ B s', Same s s' → Fr h₀ L s'.heap m → Led h₀ L s'.heap ((B, tupOf vs) :: l) → Q (.ref B) s') : wpAny (model PG w) A (call (.type "tuple") [.ref D]) Q E s :=
  kde_tupleOf F Λ.N ⟨_, Λ.get hm, rfl, _, rfl⟩ (by simp; omega) (zs := vs) (by simp) fun B h' F' N' l1 => ret B _ ⟨rfl, rfl, rfl⟩ F' (Λ.cons N' l1)
/-- x.a within a comprehension -/
theorem Fn.cAttr {Q : Value → Shared → Prop} {x : Str} {p p2 : Pos} {v : Value} {scope : Scope} {clc : List (Str × Addr)} {C : Addr} {oC : Obj} {m₂ : Str → Option Value} {K dx x' : Addr} {at' : Str} {vs : List (Str × Value)} {tf : Nat → Tok} {n : Nat} (Γ : Fn w d cs cl A env L h₀) (F : Fr h₀ L s.heap m) (N : News h₀ L s.heap l) (hm : (C, oC) ∈ l) (hC : LCg.NsObj oC m₂) (hv : m₂ x = some (.ref x')) (h1 : (x', instObj K dx) ∈ l) (h2 : (dx, dictOf (entsD w.params tf vs) n) ∈ l)
    (hl : vs.lookup at' = some v) (h : Q v { s with toks := s.toks + 1 }) (hh : handedIn v = true := by rfl) (hp : plainAttr (Mine.heap39 w.params) K at' = true := by kernel_rfl) (hx : nok scope .local x = true := by kernel_rfl) (hk : scope.kind = .function := by rfl) :
    wpAny (model PG w) A (eval (.Attribute (.Name x p) at' p2) (compEnvC scope clc C env)) Q E s := Attribute_name (c_lcl N hm hC hv (get_rec F Γ.X N h1 h2 hp hl hh h) hx hk)
theorem Fn.raiseFault {Q : Flow → Shared → Prop} {z zn x : Str} {t : Tok} {kd : Nat} {p1 p2 p3 p4 p5 p6 : Pos} (Γ : Fn w d cs cl A env L h₀) (hd' : d < 800) (F : Fr h₀ L s.heap m) (Λ : Led h₀ L s.heap l) (hv : m x = some (.str zn t)) (hz : z.length + zn.length ≤ 1000)
    (thr : ∀ e dx ob t vs s', Same s s' → Fr h₀ L s'.heap m → Led h₀ L s'.heap ((e, { excObj 60 t with dict := some dx }) :: (dx, ob) :: (t, tupOf vs) :: l) → E (.ref e) s')
    (hx : nok cs .local x = true := by kernel_rfl) (hx2 : nok cs .globalImplicit (Str.ofString "DataFault") = true := by kernel_rfl) :
    wpAny (model PG w) A (execs [.Raise (some (.Call (.Name (Str.ofString "DataFault") p1) [.BinOp (.Constant (.str z) kd p2) .Add (.Name x p3) p4] [] p5)) none p6] env) Q E s := by
  have hok : excOk (Mine.heap39 w.params) = true := by kernel_rfl
  obtain ⟨nm, q, N, bs, sn, sub, ab, col, dd, k0, k1, k2, k3, k5, cd, hC, _, _, _⟩ := excOk_of Γ.X hok
  refine wpAny_execs_cons (raise_l (nm := nm) (q := q) (C := 60) (N := N) (bs := bs) (bm := excTail) (hdct := true) (sn := sn) (sub := sub) (ab := ab) (col := col) (dd := dd) (k0 := k0) (k1 := k1) (k2 := k2) (k3 := k3) (k5 := k5) (newId := "Exception.__new__") (by decide) Γ.handled (Γ.callK F (.ref 60) (spliced_more (wpAny_BinOp (wpAny_Constant_str (Γ.lcl F hv (PyProof.Rows.add_str (fun t₂ tk₂ => spliced_none ⟨⟨_, F⟩, ?_⟩) (by rw [sizeLine_eq]; omega)) hx)))) (hx := hx2)))
  refine Γ.fault hd' F Λ fun e dx od t vs s' e' F' Λ' => ⟨e, t, some dx, rfl, F'.keep _ _ hC, Λ'.get (.head _), thr e dx od t vs s' e' F' Λ'⟩
def JJ (w : World) (sd x : Addr) (fts : List (Str × List Tr)) (sos : List Str) (sps : List Sp) (names : List Str) (en : Addr × Obj) (R : List (Addr × Obj)) (i : Nat) (m : Str → Option Value) (l : List (Addr × Obj)) : Prop :=
  ∃ sps' Rn, l = spE w.params sps' ++ (Rn ++ R) ∧ en ∈ Rn ∧ sps'.map Sp.key = sps.map Sp.key ∧ (∀ sp ∈ sps', SpIn R sp) ∧ (∀ sp ∈ sps', sp.name ∈ names.take i → Told Rn fts sos sp) ∧ (∀ k ∈ names.take i, k ∈ sps.map Sp.name) ∧ Has [(Str.ofString "files", .ref sd), (Str.ofString "data", .ref x)] m
set_option maxHeartbeats 2000000 in
theorem join_c {Q : Value → Shared → Prop} {x sd : Addr} {so : Obj} {sps : List Sp} {fts : List (Str × List Tr)} {sos nms : List Str} (Γ : Fn w d cs cl A env L h₀) (G : Gd w A env L h₀) (hd' : d < 700) (F : Fr h₀ L s.heap m) (Λ : Led h₀ L s.heap (spE w.params sps ++ R)) (hD : DataX w nms R x fts sos)
    (hs : (sd, so) ∈ R) (hsd : IsD w so (sps.map Sp.kv)) (lo : (sd == sysModules) = false) (hsp : ∀ sp ∈ sps, SpIn R sp) (hn : sps.length ≤ 5) (hk1 : ∀ k ∈ fts.map (·.1), k.length ≤ 100) (hk2 : ∀ k ∈ sps.map Sp.name, k.length ≤ 100)
    (ret : ∀ sps' Rn s', Same s s' → Fr h₀ L s'.heap m → Led h₀ L s'.heap (spE w.params sps' ++ (Rn ++ R)) → sps'.map Sp.key = sps.map Sp.key → (∀ sp ∈ sps', SpIn R sp ∧ Told Rn fts sos sp) → (∀ k, k ∈ sps.map Sp.name ↔ k ∈ fts.map (·.1)) → Q .none s')
    (thr : ∀ e Rn s', Same s s' → Flown w A env L h₀ m (Rn ++ R) e s'.heap → ¬ (∀ k, k ∈ sps.map Sp.name ↔ k ∈ fts.map (·.1)) → E (.ref e) s') :
    wpAny (model PG w) A (call (.ref 189) [.ref sd, .ref x]) Q E s := by
  have X := Γ.X
  have hpg : PG = PySem.Challenge.rw_og0080_01.row.prog := rfl
  revert hpg X; k_fill; intro X hpg
  refine' Γ.enterR [(Str.ofString "files", .ref sd), (Str.ofString "data", .ref x)] G (by omega) F Λ ?b1 ?b2 ?b4 ?b5 ?c1 fun A' env' g L' s₁ m₁ Q' E' e₁ Γ₁ G₁ F₁ hm₁ Λ₁ hE fin fly => ?_
  case b1 => k_is
  case b2 => k_is
  case b4 => rfl
  case b5 => kernel_rfl
  case c1 => kernel_rfl
  have H₁ : Has [(Str.ofString "files", .ref sd), (Str.ofString "data", .ref x)] m₁ := (Has.nil.cons (hm₁ _ _ rfl)).cons (hm₁ _ _ rfl)
  obtain ⟨dx, vs, tf, wl, ll, fd, sl, o, kvs, svs, ns, i1, i2, D, i3, i4, lo2, hF, i5, hS, hl5⟩ := hD
  have hin : ∀ {a b : List (Addr × Obj)} {p}, p ∈ R → p ∈ a ++ (b ++ R) := fun h => List.mem_append_right _ (List.mem_append_right _ h)
  have hkl : kvs.length = fts.length := by have := congrArg List.length hF.names; rw [List.length_map, List.length_map] at this; exact this
  have hndn : (sps.map Sp.name).Nodup := by rw [← kv_names]; obtain ⟨_, _, _, _, _, _, h⟩ := hsd; exact h
  have hnam : ∀ {sps' : List Sp}, sps'.map Sp.key = sps.map Sp.key → sps'.map Sp.name = sps.map Sp.name := fun {sps'} h => by rw [← kv_names, ← kv_names, kv_key h]
  have hnd : (fts.map (·.1)).Nodup := by rw [← hF.names]; obtain ⟨_, _, _, _, _, _, h⟩ := i4; exact h
  have hz1 : (Str.ofString "a file that is not selected: ").length ≤ 100 := by decide +kernel
  have hz2 : (Str.ofString "a file without a description: ").length ≤ 100 := by decide +kernel
  -- for name in sorted(data.files)
  refine wpAny_execs_cons (Γ₁.forI (Γ₁.callB1 F₁ sorted_boot (Γ₁.attr F₁ Λ₁.N H₁.get (List.mem_append_right _ i1) (List.mem_append_right _ i2) D.2.2.1 (sortedD_l (s := { s₁ with toks := _ }) Γ₁.handled F₁ Λ₁ (List.mem_append_right _ i3) i4 lo2 (by omega) fun SB vs' ss' sn s₂ e₂ F₂ Λ₂ hS2 hp hso => ?_))) hE)
  have hsl : vs'.length = ss'.length := hS2.length
  have hpm : ∀ k, k ∈ ss' ↔ k ∈ fts.map (·.1) := fun k => by rw [hp.mem_iff, hF.names]
  have Λ₃ : Led g L' s₂.heap (spE w.params sps ++ ([(SB, W.listOf vs'.toArray sn)] ++ R)) := Λ₂.perm (List.perm_middle (l₁ := spE w.params sps)).symm
  refine ⟨SB, vs', sn, _, _, rfl, List.mem_append_right _ (.head _), F₂, Λ₃, ?_⟩
  refine Fn.loops (JJ w sd x fts sos sps ss' (SB, W.listOf vs'.toArray sn) R) ⟨sps, [(SB, W.listOf vs'.toArray sn)], rfl, .head _, rfl, hsp, (fun _ _ h => nomatch h), (fun _ h => nomatch h), H₁⟩ ?_ ?_
  · clear F Λ F₁ Λ₁ F₂ Λ₂ Λ₃ H₁ hm₁
    rintro i v m₁ m₂ l₁ s₃ I ob hi hv ⟨sps', Rn, rfl, hen, hkey, hsp', htold, hsub, Ag⟩ _ e₃ F₁ p₁ Λ₁
    have H₁ := p₁.has Ag
    have hi2 : i < ss'.length := by omega
    obtain ⟨t, ht⟩ := strs_get hS2 (List.getElem?_eq_getElem hi2)
    obtain rfl : v = .str ss'[i] t := Option.some.inj (hv.symm.trans ht)
    have hk := (hpm _).mp (List.getElem_mem hi2)
    have hkt : ss'.take (i + 1) = ss'.take i ++ [ss'[i]] := by rw [List.take_add_one, List.getElem?_eq_getElem hi2]; rfl
    generalize ss'[i] = k at hk hkt H₁ p₁ hv ht
    have hkl1 := hk1 _ hk
    obtain ⟨ts, a, na, f1, f2, f3, f4, f5⟩ := hF.at (k := k) (by rw [hF.names]; exact hk)
    have hinR : ∀ {p}, p ∈ R → p ∈ (I, ob) :: (spE w.params sps' ++ (Rn ++ R)) := fun h => .tail _ (hin h)
    -- if name not in files
    refine wpAny_execs_cons (wpAny_If (wpAny_isTrue_Compare1 (Γ₁.lcl F₁ H₁.get (Γ₁.lcl F₁ H₁.get (notIn_l Λ₁ (hinR hs) hsd lo (wpAny_truthy_bool ?_))))))
    cases hv : valueAt (sps.map Sp.kv) k with
    | none =>
      show wpAny (model PG w) A' (execs [_] env') _ _ _
      refine Γ₁.raiseFault (s := { s₃ with toks := _ }) (by omega) F₁ Λ₁ H₁.get (by omega) fun e dx' ob' t' vs'' s₄ e₄ F₂ Λ₂ => ?_
      refine fly e dx' ob' t' vs'' s₄ m₂ (Rn ++ R) F₂ (Λ₂.sub (.cons_cons _ (.cons_cons _ (.cons_cons _ (.cons _ (List.sublist_append_right _ _)))))) fun s₅ e₅ O => thr e Rn s₅ ?_ O ?_
      · exact e₁.trans (e₂.trans (e₃.trans (Same.trans (s' := { s₃ with toks := _ }) ⟨rfl, rfl, rfl⟩ (e₄.trans e₅))))
      · intro hall
        have := (hall k).mpr hk
        rw [← kv_names] at this
        have := valueAt_some.mpr this
        rw [hv] at this
        cases this
    | some u =>
      show wpAny (model PG w) A' (execs [] env') _ _ _
      have hkin : k ∈ sps.map Sp.name := by rw [← kv_names]; exact valueAt_some.mp (by rw [hv]; rfl)
      rw [← hnam hkey] at hkin
      obtain ⟨sp, hspm, rfl⟩ := List.mem_map.mp hkin
      obtain ⟨a', b', rfl⟩ := List.append_of_mem hspm
      have hspv : valueAt (sps.map Sp.kv) sp.name = some (.ref sp.x) := by
        rw [← kv_key hkey]
        exact valueAt_mem (by rw [kv_names, hnam hkey]; exact hndn) (List.mem_map.mpr ⟨sp, hspm, rfl⟩)
      obtain ⟨j1, j2, j3, j4⟩ := hsp' sp hspm
      refine wpAny_execs_nil ?_
      -- files[name].records = tuple([root.name for root in data.files[name]])
      have hts : (refsT ts).length = ts.length := List.length_map _
      refine wpAny_execs_cons (plainObj_wpAny_Assign_Attribute (Γ₁.callT1 F₁ tuple_boot (Γ₁.compL (clc := []) rfl (Subscript_ (Γ₁.attr F₁ Λ₁.N H₁.get (hinR i1) (hinR i2) D.2.2.1 (Γ₁.lcl F₁ H₁.get (get_l (s := { s₃ with toks := _ }) Λ₁ (hinR i3) i4 f2 ?_)))))))
      refine ⟨a, refsT ts, na, _, _, rfl, hinR f3, by omega, F₁, Λ₁, comps (fun i ys l₁ => l₁ = (I, ob) :: (spE w.params (a' ++ sp :: b') ++ (Rn ++ R)) ∧ StrsAre ys ((ts.map (·.2.1)).take i)) ⟨rfl, .nil⟩ ?_ ?_⟩
      · clear Λ₁ F₁
        rintro j u₁ mc ys _ s₄ I' oI C oC D' E2 hj hP ⟨rfl, hys⟩ hex e₄ F₁ hoC hmx Λ₁
        have hj2 : j < ts.length := by omega
        have hu : u₁ = .ref ts[j].1 := by rw [List.getElem?_map, List.getElem?_eq_getElem hj2] at hP; exact (Option.some.inj hP).symm
        subst hu
        obtain ⟨_, _, _, _, _, hNa, _⟩ := f4 ts[j] (List.getElem_mem hj2)
        obtain ⟨dxi, vsi, tfi, ci, ki, n1, n2, ⟨ti, hti⟩, _⟩ := hNa
        refine Γ₁.cAttr F₁ Λ₁.N (.tail _ (.head _)) hoC hmx (.tail _ (.tail _ (.tail _ (hinR n1)))) (.tail _ (.tail _ (.tail _ (hinR n2)))) hti ⟨_, ⟨rfl, rfl, rfl⟩, F₁, Λ₁, hex, rfl, ?_⟩
        rw [List.take_add_one, List.getElem?_map, List.getElem?_eq_getElem hj2]
        exact strs_snoc hys
      · rintro D' s₄ ys _ ⟨rfl, hys⟩ hex e₄ F₂ Λ₂
        rw [hts, List.take_of_length_le (by simp)] at hys
        refine tupOf_l F₂ Λ₂ (.head _) (by rw [hys.length]; simp; omega) fun B s₅ e₅ F₃ Λ₃ => ?_
        have Λ₄ : Led g L' s₅.heap (sp.dE w.params :: ((B, tupOf ys) :: (D', lst ys) :: (I, ob) :: (spE w.params a' ++ (spE w.params b' ++ (Rn ++ R))))) := Λ₃.perm ((perm_sp w.params a' b' sp (Rn ++ R)).append_left [_, _, _] |>.trans (pulls_perm [3] _))
        have hin2 : ∀ {p}, p ∈ R → p ∈ ((B, tupOf ys) :: (D', lst ys) :: (I, ob) :: (spE w.params a' ++ (spE w.params b' ++ (Rn ++ R)))) := fun h => .tail _ (.tail _ (.tail _ (List.mem_append_right _ (List.mem_append_right _ (List.mem_append_right _ h)))))
        refine Subscript_ (Γ₁.lcl F₃ H₁.get (Γ₁.lcl F₃ H₁.get (get_l Λ₄ (.tail _ (hin2 hs)) hsd hspv ?_)))
        refine Γ₁.setR (s := { s₅ with toks := _ }) F₃ Λ₄ (hin2 j1) j4 j2 fun tf₁ s₆ e₆ F₄ Λ₅ => ?_
        -- files[name].is_sort = name in data.sorts
        let sp1 : Sp := { sp with vs := putV (Str.ofString "records") (.ref B) sp.vs, tf := tf₁ }
        refine wpAny_execs_cons (plainObj_wpAny_Assign_Attribute (wpAny_Compare1 (Γ₁.lcl F₄ H₁.get (Γ₁.attr F₄ Λ₅.N H₁.get (.tail _ (hin2 i1)) (.tail _ (hin2 i2)) D.2.2.2.1 (in_list_strs (s := { s₆ with toks := _ }) ⟨_, Λ₅.get (.tail _ (hin2 i5)), rfl, _, rfl⟩ hS ?_)))))
        refine Subscript_ (Γ₁.lcl F₄ H₁.get (Γ₁.lcl F₄ H₁.get (get_l (s := { s₆ with toks := _ }) Λ₅ (.tail _ (hin2 hs)) hsd hspv ?_)))
        refine Γ₁.setR (sp := sp1) (s := { s₆ with toks := _ }) F₄ Λ₅ (hin2 j1) ((length_putV j2).trans j4) (by show (List.lookup _ (putV _ _ _)).isSome = true; rw [lookup_putV_ne (by decide +kernel)]; exact j3) fun tf₂ s₇ e₇ F₅ Λ₆ => ?_
        let sp2 : Sp := { sp with vs := putV (Str.ofString "is_sort") (.bool (sos.any (· == sp.name))) sp1.vs, tf := tf₂ }
        have hone : ∀ q ∈ a' ++ b', q.name ≠ sp.name := fun q hq e => by
          have hh : ((a' ++ sp :: b').map Sp.name).Nodup := by rw [hnam hkey]; exact hndn
          rw [List.map_append, List.map_cons] at hh
          have hh := (List.perm_middle.nodup_iff.mp hh)
          rw [List.nodup_cons, ← List.map_append] at hh
          exact hh.1 (List.mem_map.mpr ⟨q, hq, e⟩)
        refine wpAny_execs_nil ⟨rfl, m₂, spE w.params (a' ++ sp2 :: b') ++ (((B, tupOf ys) :: (D', lst ys) :: Rn) ++ R), ?_, F₅, ?_, ?_, a' ++ sp2 :: b', (B, tupOf ys) :: (D', lst ys) :: Rn, rfl, .tail _ (.tail _ hen), ?_, ?_, ?_, ?_, H₁.sub fun _ h => .tail _ h⟩
        · exact e₃.trans (Same.trans (s' := { s₃ with toks := _ }) ⟨rfl, rfl, rfl⟩ (e₄.trans (e₅.trans (Same.trans (s' := { s₅ with toks := _ }) ⟨rfl, rfl, rfl⟩ (e₆.trans (Same.trans (s' := { s₆ with toks := _ }) ⟨rfl, rfl, rfl⟩ e₇))))))
        · exact Λ₆.perm ((pulls_perm [3] _).trans (((perm_q [_, _] (spE w.params a') (spE w.params b') (Rn ++ R)).append_left [_, _]).trans ((perm_sp w.params a' b' sp2 ([_, _] ++ (Rn ++ R))).symm.cons _)))
        · intro p hp; rw [List.mem_singleton.mp hp]; exact List.mem_append_right _ (List.mem_append_left _ (.tail _ (.tail _ hen)))
        · rw [← hkey, List.map_append, List.map_append, List.map_cons, List.map_cons]
        · intro q hq
          rcases List.mem_append.mp hq with hq | hq
          · exact hsp' q (List.mem_append_left _ hq)
          · rcases List.mem_cons.mp hq with rfl | hq
            · refine ⟨j1, ?_, ?_, ?_⟩
              · show (List.lookup _ (putV _ _ (putV _ _ _))).isSome = true
                rw [lookup_putV_ne (by decide +kernel), lookup_putV_self]; rfl
              · show (List.lookup _ (putV _ _ _)).isSome = true
                rw [lookup_putV_self]; rfl
              · show (putV _ _ (putV _ _ _)).length = 10
                rw [length_putV, length_putV j2, j4]
                rw [lookup_putV_ne (by decide +kernel)]; exact j3
            · exact hsp' q (List.mem_append_right _ (.tail _ hq))
        · intro q hq hqn
          rw [hkt] at hqn
          have old : q ∈ a' ++ b' → Told ((B, tupOf ys) :: (D', lst ys) :: Rn) fts sos q := fun hm => by
            rcases List.mem_append.mp hqn with h | h
            · refine (htold q ?_ h).mono fun p hp => .tail _ (.tail _ hp)
              rcases List.mem_append.mp hm with hm | hm
              · exact List.mem_append_left _ hm
              · exact List.mem_append_right _ (.tail _ hm)
            · exact absurd (List.mem_singleton.mp h) (hone q hm)
          rcases List.mem_append.mp hq with hq | hq
          · exact old (List.mem_append_left _ hq)
          · rcases List.mem_cons.mp hq with rfl | hq
            · refine ⟨ts, B, ys, f1, ?_, .head _, hys, ?_⟩
              · show List.lookup _ (putV _ _ (putV _ _ _)) = _
                rw [lookup_putV_ne (by decide +kernel), lookup_putV_self]
              · show List.lookup _ (putV _ _ _) = _
                rw [lookup_putV_self]
            · exact old (List.mem_append_right _ hq)
        · intro q hq
          rw [hkt] at hq
          rcases List.mem_append.mp hq with hq | hq
          · exact hsub q hq
          · rw [List.mem_singleton.mp hq, ← hnam hkey]; exact List.mem_map.mpr ⟨sp, hspm, rfl⟩
  · clear F Λ F₁ Λ₁ F₂ Λ₂ Λ₃ H₁ hm₁
    rintro s₃ m₁ l₁ ⟨sps', Rn, rfl, hen, hkey, hsp', htold, hsub, Ag⟩ _ e₃ F₁ Λ₁
    rw [List.take_of_length_le (by omega)] at htold hsub
    have hks : (sps.map Sp.kv).length = sps.length := List.length_map _
    -- for name in sorted(files)
    refine wpAny_execs_cons (Γ₁.forI (Γ₁.callB1 F₁ sorted_boot (Γ₁.lcl F₁ Ag.get (sortedD_l Γ₁.handled F₁ Λ₁ (hin hs) hsd lo (by omega) fun SB2 vs2 ss2 sn2 s₄ e₄ F₂ Λ₂ hS3 hp2 hso2 => ?_))) hE)
    have hsl2 : vs2.length = ss2.length := hS3.length
    rw [kv_names] at hp2
    refine ⟨SB2, vs2, sn2, _, _, rfl, .head _, F₂, Λ₂, ?_⟩
    refine Fn.loops (fun i m l => l = (SB2, W.listOf vs2.toArray sn2) :: (spE w.params sps' ++ (Rn ++ R)) ∧ (∀ k ∈ ss2.take i, k ∈ fts.map (·.1)) ∧ Has [(Str.ofString "files", .ref sd), (Str.ofString "data", .ref x)] m) ⟨rfl, (fun _ h => nomatch h), Ag⟩ ?_ ?_
    · clear F₁ F₂ Λ₁ Λ₂ Ag
      rintro i v m₃ m₂ _ s₅ I ob hi hv ⟨rfl, hsub2, Ag⟩ _ e₅ F₁ p₁ Λ₁
      have H₁ := p₁.has Ag
      have hi2 : i < ss2.length := by omega
      obtain ⟨t, ht⟩ := strs_get hS3 (List.getElem?_eq_getElem hi2)
      obtain rfl : v = .str ss2[i] t := Option.some.inj (hv.symm.trans ht)
      have hk := hp2.mem_iff.mp (List.getElem_mem hi2)
      have hkt : ss2.take (i + 1) = ss2.take i ++ [ss2[i]] := by rw [List.take_add_one, List.getElem?_eq_getElem hi2]; rfl
      generalize ss2[i] = k at hk hkt H₁ p₁ hv ht
      have hkl1 := hk2 _ hk
      have hinR : ∀ {p}, p ∈ R → p ∈ (I, ob) :: (SB2, W.listOf vs2.toArray sn2) :: (spE w.params sps' ++ (Rn ++ R)) := fun h => .tail _ (.tail _ (hin h))
      refine wpAny_execs_cons (wpAny_If (wpAny_isTrue_Compare1 (Γ₁.lcl F₁ H₁.get (Γ₁.attr F₁ Λ₁.N H₁.get (hinR i1) (hinR i2) D.2.2.1 (notIn_l (s := { s₅ with toks := _ }) Λ₁ (hinR i3) i4 lo2 (wpAny_truthy_bool ?_))))))
      cases hv : valueAt kvs k with
      | none =>
        show wpAny (model PG w) A' (execs [_] env') _ _ _
        refine Γ₁.raiseFault (s := { s₅ with toks := _ }) (by omega) F₁ Λ₁ H₁.get (by omega) fun e dx' ob' t' vs'' s₆ e₆ F₂ Λ₂ => ?_
        refine fly e dx' ob' t' vs'' s₆ m₂ (Rn ++ R) F₂ (Λ₂.sub (.cons_cons _ (.cons_cons _ (.cons_cons _ (.cons _ (.cons _ (List.sublist_append_right _ _))))))) fun s₇ e₇ O => thr e Rn s₇ ?_ O ?_
        · exact e₁.trans (Same.trans (s' := { s₁ with toks := _ }) ⟨rfl, rfl, rfl⟩ (e₂.trans (e₃.trans (e₄.trans (e₅.trans (Same.trans (s' := { s₅ with toks := _ }) ⟨rfl, rfl, rfl⟩ (e₆.trans e₇)))))))
        · intro hall
          have := (hall k).mp hk
          rw [← hF.names] at this
          have := valueAt_some.mpr this
          rw [hv] at this
          cases this
      | some u =>
        show wpAny (model PG w) A' (execs [] env') _ _ _
        refine wpAny_execs_nil (wpAny_execs_nil ⟨rfl, m₂, _, e₅.trans (Same.trans (s' := { s₅ with toks := _ }) ⟨rfl, rfl, rfl⟩ ⟨rfl, rfl, rfl⟩), F₁, Λ₁, ?_, rfl, ?_, H₁.sub fun _ h => .tail _ h⟩)
        · intro p hp; rw [List.mem_singleton.mp hp]; exact .head _
        · intro q hq
          rw [hkt] at hq
          rcases List.mem_append.mp hq with hq | hq
          · exact hsub2 q hq
          · rw [List.mem_singleton.mp hq, ← hF.names]
            exact valueAt_some.mp (by rw [hv]; rfl)
    · rintro s₅ m₂ _ ⟨rfl, hsub2, Ag⟩ _ e₅ F₃ Λ₃
      rw [List.take_of_length_le (by omega)] at hsub2
      refine wpAny_execs_nil (fin .next .none _ _ _ (.inr ⟨rfl, rfl⟩) F₃ (Λ₃.sub (.cons _ (List.Sublist.refl _))) fun F₄ Λ₄ => ?_)
      refine ret sps' Rn _ (e₁.trans (Same.trans (s' := { s₁ with toks := _ }) ⟨rfl, rfl, rfl⟩ (e₂.trans (e₃.trans (e₄.trans e₅))))) F₄ Λ₄ hkey (fun sp hm => ⟨hsp' sp hm, htold sp hm ?_⟩) fun k => ⟨fun h => hsub2 k (hp2.mem_iff.mpr h), fun h => hsub k ((hpm k).mpr h)⟩
      rw [hpm]
      refine hsub2 _ (hp2.mem_iff.mpr ?_)
      rw [← hnam hkey]
      exact List.mem_map.mpr ⟨sp, hm, rfl⟩
end
end Mine
end
section
open PySem PySem.W PySem.Calls PyProof.Rows
namespace Mine
/-- what is told of a file: its name, its records' names, whether it is only sorted -/
abbrev Row := Str × List Str × Bool
def RowIn (R : List (Addr × Obj)) (v : Value) (r : Row) : Prop := ∃ a t q vs, v = .ref a ∧ (a, tupOf [.str r.1 t, .ref q, .bool r.2.2]) ∈ R ∧ (q, tupOf vs) ∈ R ∧ StrsAre vs r.2.1
def RowsIn (R : List (Addr × Obj)) : List Value → List Row → Prop
  | [], [] => True
  | v :: vs, r :: rs => RowIn R v r ∧ RowsIn R vs rs
  | _, _ => False
theorem RowIn.mono {R R' : List (Addr × Obj)} {v : Value} {r : Row} (h : ∀ p ∈ R, p ∈ R') : RowIn R v r → RowIn R' v r := fun ⟨a, t, q, vs, e, b, c, d⟩ => ⟨a, t, q, vs, e, h _ b, h _ c, d⟩
theorem RowsIn.mono {R R' : List (Addr × Obj)} (h : ∀ p ∈ R, p ∈ R') : ∀ {vs : List Value} {rs : List Row}, RowsIn R vs rs → RowsIn R' vs rs
  | [], [], _ => trivial
  | _ :: _, _ :: _, ⟨a, b⟩ => ⟨a.mono h, b.mono h⟩
theorem RowsIn.snoc {R : List (Addr × Obj)} {v : Value} {r : Row} (h : RowIn R v r) : ∀ {vs : List Value} {rs : List Row}, RowsIn R vs rs → RowsIn R (vs ++ [v]) (rs ++ [r])
  | [], [], _ => ⟨h, trivial⟩
  | _ :: _, _ :: _, ⟨a, b⟩ => ⟨a, b.snoc h⟩
theorem RowsIn.len {R : List (Addr × Obj)} : ∀ {vs : List Value} {rs : List Row}, RowsIn R vs rs → vs.length = rs.length
  | [], [], _ => rfl
  | _ :: _, _ :: _, ⟨_, b⟩ => congrArg (· + 1) b.len
def rowOf (fts : List (Str × List Tr)) (sos : List Str) (k : Str) : Row := (k, ((fts.lookup k).getD []).map (·.2.1), sos.any (· == k))
theorem lookup_of_nd {α : Type} {k : Str} {v : α} : ∀ {l : List (Str × α)}, (l.map (·.1)).Nodup → (k, v) ∈ l → l.lookup k = some v
  | q :: r, hd, hm => by
    rw [List.map_cons, List.nodup_cons] at hd
    obtain ⟨b, u⟩ := q
    rw [List.lookup_cons]
    rcases List.mem_cons.mp hm with e | hm
    · obtain ⟨rfl, rfl⟩ := Prod.mk.inj e
      rw [beq_self_eq_true]
    · have : (k == b) = false := by
        cases e : k == b with
        | false => rfl
        | true => exact absurd (List.mem_map.mpr ⟨(k, v), hm, eq_of_beq e⟩) hd.1
      rw [this]
      exact lookup_of_nd hd.2 hm
theorem DataX.mono {w : World} {nms : List Str} {R R' : List (Addr × Obj)} {x : Addr} {fts : List (Str × List Tr)} {sos : List Str} (h : ∀ p ∈ R, p ∈ R') (D : DataX w nms R x fts sos) : DataX w nms R' x fts sos := by
  obtain ⟨dx, vs, tf, wl, ll, fd, sl, o, kvs, svs, ns, i1, i2, D, i3, i4, lo2, hF, i5, hS, hl5⟩ := D
  exact ⟨dx, vs, tf, wl, ll, fd, sl, o, kvs, svs, ns, h _ i1, h _ i2, D, h _ i3, i4, lo2, hF.mono h, h _ i5, hS, hl5⟩
section
variable {w : World} {d : Nat} {cs : Scope} {cl : List (Str × Addr)} {A : Around} {env : Env} {L : Addr} {h₀ : Heap} {m : Str → Option Value} {R l : List (Addr × Obj)} {s : Shared} {E : Value → Shared → Prop}
set_option maxHeartbeats 2000000 in
theorem joined_c {Q : Value → Shared → Prop} {x sd : Addr} {so : Obj} {sps : List Sp} {fts : List (Str × List Tr)} {sos nms : List Str} (Γ : Fn w d cs cl A env L h₀) (G : Gd w A env L h₀) (hd' : d < 690) (F : Fr h₀ L s.heap m) (Λ : Led h₀ L s.heap (spE w.params sps ++ R)) (hD : DataX w nms R x fts sos)
    (hs : (sd, so) ∈ R) (hsd : IsD w so (sps.map Sp.kv)) (lo : (sd == sysModules) = false) (hsp : ∀ sp ∈ sps, SpIn R sp) (hn : sps.length ≤ 5) (hk1 : ∀ k ∈ fts.map (·.1), k.length ≤ 100) (hk2 : ∀ k ∈ sps.map Sp.name, k.length ≤ 100)
    (ret : (∀ k, k ∈ sps.map Sp.name ↔ k ∈ fts.map (·.1)) → ∀ B vals n ss Rn s' h₀', Same s s' → Turn A env h₀ h₀' → Fn w d cs cl A env L h₀' → Gd w A env L h₀' → Fr h₀' L s'.heap m → Led h₀' L s'.heap ((B, W.listOf vals.toArray n) :: (Rn ++ R)) →
      ss.Perm (sps.map Sp.name) → sortedS ss = true → RowsIn Rn vals (ss.map (rowOf fts sos)) → Q (.ref B) s')
    (ret2 : ¬ (∀ k, k ∈ sps.map Sp.name ↔ k ∈ fts.map (·.1)) → ∀ Rn s' h₀', Same s s' → Turn A env h₀ h₀' → Fn w d cs cl A env L h₀' → Gd w A env L h₀' → Fr h₀' L s'.heap m → Led h₀' L s'.heap (Rn ++ R) → Q .none s') :
    wpAny (model PG w) A (call (.ref 238) [.ref sd, .ref x]) Q E s := by
  have X := Γ.X
  have hpg : PG = PySem.Challenge.rw_og0080_01.row.prog := rfl
  revert hpg X; k_fill; intro X hpg
  refine' Γ.enterT [(Str.ofString "specs", .ref sd), (Str.ofString "data", .ref x)] G (by omega) F Λ ?b1 ?b2 ?b4 ?b5 ?b6 ?c1 fun A' env' g L' s₁ cells Q' E' e₁ _ _ Γ₁ G₁ F₁ Y Λ₁ hE hEm fin => ?_
  case b1 => k_is
  case b2 => k_is
  case b4 => rfl
  case b5 => kernel_rfl
  case b6 => decide
  case c1 => kernel_rfl
  have Y : CellsAre _ [(Str.ofString "specs", L' + 1)] cells := Y
  obtain ⟨oc, rfl, hc⟩ := Y.one
  have hc : oc.data = .cell (some (.ref sd)) := hc
  have Γ₁ : Fn w (d + 1) _ [(Str.ofString "specs", L' + 1)] A' env' L' g := Γ₁
  generalize L' + 1 = c at Γ₁ Λ₁
  obtain ⟨m₁, F₁, hm₁⟩ : ∃ m₁, Fr g L' s₁.heap m₁ ∧ m₁ (Str.ofString "data") = some (.ref x) := ⟨_, F₁, by kernel_rfl⟩
  have H₁ : Has [(Str.ofString "data", .ref x)] m₁ := Has.nil.cons hm₁
  have Λ₂ : Led g L' s₁.heap (spE w.params sps ++ ((c, oc) :: R)) := Λ₁.perm (List.perm_middle (l₁ := spE w.params sps)).symm
  have hD2 : DataX w nms ((c, oc) :: R) x fts sos := hD.mono fun p h => .tail _ h
  -- try: join_files(specs, data)
  refine wpAny_execs_cons (wpAny_Try_except (wpAny_execs_cons (wpAny_Expr_any (Γ₁.callK F₁ (.ref 189) (spliced_more (Γ₁.cel Λ₁.N rfl (.head _) hc (spliced_more (Γ₁.lcl F₁ H₁.get (spliced_none ⟨⟨_, F₁⟩, ?_⟩)))))) Γ₁.inter rfl)))
  refine join_c Γ₁ G₁ (by omega) F₁ Λ₂ hD2 (.tail _ hs) hsd lo (fun sp h => ⟨.tail _ (hsp sp h).1, (hsp sp h).2⟩) hn hk1 hk2 (fun sps' Rn s₂ e₂ F₂ Λ₃ hkey htold hall => ?_) fun e Rn s₂ e₂ O hnot => ?_
  · have hks : (sps.map Sp.kv).length = sps.length := List.length_map _
    have hndn : (sps.map Sp.name).Nodup := by rw [← kv_names]; obtain ⟨_, _, _, _, _, _, h⟩ := hsd; exact h
    have hnam : sps'.map Sp.name = sps.map Sp.name := by rw [← kv_names, ← kv_names, kv_key hkey]
    have hndf : (fts.map (·.1)).Nodup := by
      obtain ⟨_, _, _, _, _, _, _, _, _, _, _, _, _, _, _, i4, _, hF, _⟩ := hD
      rw [← hF.names]; obtain ⟨_, _, _, _, _, _, h⟩ := i4; exact h
    have hin : ∀ {p}, p ∈ R → p ∈ spE w.params sps' ++ (Rn ++ (c, oc) :: R) := fun h => List.mem_append_right _ (List.mem_append_right _ (.tail _ h))
    have hcm : (c, oc) ∈ spE w.params sps' ++ (Rn ++ (c, oc) :: R) := List.mem_append_right _ (List.mem_append_right _ (.head _))
    refine wpAny_execs_nil (wpAny_execs_nil ?_)
    -- return [(name, specs[name].records, specs[name].is_sort) for name in sorted(specs)]
    refine wpAny_execs_cons (wpAny_Return_some (Γ₁.compL (clc := [(Str.ofString "specs", c)]) rfl (Γ₁.callB1 F₂ sorted_boot (Γ₁.cel Λ₃.N rfl hcm hc (sortedD_l Γ₁.handled F₂ Λ₃ (hin hs) hsd lo (by omega) fun SB vs' ss' sn s₃ e₃ F₃ Λ₄ hS2 hp hso => ?_)))))
    rw [kv_names] at hp
    have hsl : vs'.length = ss'.length := hS2.length
    have hsl2 : ss'.length = sps.length := by rw [hp.length_eq, List.length_map]
    have Λ₅ : Led g L' s₃.heap ([(SB, W.listOf vs'.toArray sn)] ++ (spE w.params sps' ++ (Rn ++ (c, oc) :: R))) := Λ₄
    refine ⟨SB, vs', sn, _, _, rfl, .head _, by omega, F₃, Λ₅, comps (fun i ys l => ∃ Tn, l = (SB, W.listOf vs'.toArray sn) :: (Tn ++ (spE w.params sps' ++ (Rn ++ (c, oc) :: R))) ∧ RowsIn (Tn ++ (spE w.params sps' ++ Rn)) ys ((ss'.take i).map (rowOf fts sos))) ⟨[], rfl, trivial⟩ ?_ ?_⟩
    · clear F₁ F₂ F₃ Λ₁ Λ₂ Λ₃ Λ₄ Λ₅ H₁
      rintro i v mc ys _ s₄ I oI C oC D' E2 hi hP ⟨Tn, rfl, hrows⟩ hex e₄ F₁ hoC hmx Λ₁
      have hi2 : i < ss'.length := by omega
      obtain ⟨t, ht⟩ := strs_get hS2 (List.getElem?_eq_getElem hi2)
      obtain rfl : v = .str ss'[i] t := Option.some.inj (hP.symm.trans ht)
      have hk := hp.mem_iff.mp (List.getElem_mem hi2)
      have hkt : ss'.take (i + 1) = ss'.take i ++ [ss'[i]] := by rw [List.take_add_one, List.getElem?_eq_getElem hi2]; rfl
      generalize ss'[i] = k at hk hkt hmx hP ht
      rw [← hnam] at hk
      obtain ⟨sp, hspm, rfl⟩ := List.mem_map.mp hk
      obtain ⟨⟨j1, j2⟩, ts, q, vq, t1, t2, t3, t4, t5⟩ := htold sp hspm
      have hspv : valueAt (sps.map Sp.kv) sp.name = some (.ref sp.x) := by
        rw [← kv_key hkey]
        exact valueAt_mem (by rw [kv_names, hnam]; exact hndn) (List.mem_map.mpr ⟨sp, hspm, rfl⟩)
      have hin2 : ∀ {p}, p ∈ spE w.params sps' ++ (Rn ++ (c, oc) :: R) → p ∈ (I, oI) :: (C, oC) :: (D', lst ys) :: (SB, W.listOf vs'.toArray sn) :: (Tn ++ (spE w.params sps' ++ (Rn ++ (c, oc) :: R))) := fun h => .tail _ (.tail _ (.tail _ (.tail _ (List.mem_append_right _ h))))
      have hdE : sp.dE w.params ∈ spE w.params sps' ++ (Rn ++ (c, oc) :: R) := List.mem_append_left _ (List.mem_map.mpr ⟨sp, hspm, rfl⟩)
      refine Tuple_ (spliced_more (c_lcl Λ₁.N (.tail _ (.head _)) hoC hmx (spliced_more (Attribute_any_ (Subscript_ (Γ₁.cFree Λ₁.N rfl (hin2 hcm) hc (c_lcl Λ₁.N (.tail _ (.head _)) hoC hmx (get_l Λ₁ (hin2 (hin hs)) hsd hspv ?_))))))))
      refine get_rec (s := { s₄ with toks := _ }) F₁ Γ₁.X Λ₁.N (hin2 (List.mem_append_right _ (List.mem_append_right _ j1))) (hin2 hdE) (by kernel_rfl) t2 rfl ?_
      refine spliced_more (Attribute_any_ (Subscript_ (Γ₁.cFree Λ₁.N rfl (hin2 hcm) hc (c_lcl Λ₁.N (.tail _ (.head _)) hoC hmx (get_l Λ₁ (hin2 (hin hs)) hsd hspv ?_)))))
      refine get_rec (s := { s₄ with toks := _ }) F₁ Γ₁.X Λ₁.N (hin2 (List.mem_append_right _ (List.mem_append_right _ j1))) (hin2 hdE) (by kernel_rfl) t5 rfl (spliced_none ?_)
      refine newTup_l (s := { s₄ with toks := _ }) F₁ Λ₁ (by show 3 ≤ 1000; decide) fun T s₅ e₅ F₂ Λ₂ _ => ?_
      refine ⟨_, e₅, F₂, Λ₂.pulls [4, 4, 4, 4] (l' := (I, oI) :: (C, oC) :: (D', lst ys) :: (SB, W.listOf vs'.toArray sn) :: (((T, _) :: Tn) ++ (spE w.params sps' ++ (Rn ++ (c, oc) :: R)))), ?_, (T, _) :: Tn, rfl, ?_⟩
      · intro p hp; rw [List.mem_singleton.mp hp]; exact .head _
      · rw [hkt, List.map_append]
        refine (hrows.mono fun p h => .tail _ h).snoc ⟨T, t, q, vq, rfl, ?_, .tail _ (List.mem_append_right _ (List.mem_append_right _ t3)), ?_⟩
        · exact .head _
        · show StrsAre vq (((fts.lookup sp.name).getD []).map (·.2.1))
          rw [lookup_of_nd hndf t1]; exact t4
    · rintro D' s₄ ys _ ⟨Tn, rfl, hrows⟩ hex e₄ F₄ Λ₆
      rw [List.take_of_length_le (by omega)] at hrows
      refine fin (.ret (.ref D')) (.ref D') _ _ ((D', lst ys) :: ((Tn ++ (spE w.params sps' ++ Rn)) ++ R)) g (.inl rfl) (Turn.refl G₁) F₄ (Λ₆.sub ?_) fun h₀' T Γ₂ G₂ F₅ Λ₇ => ?_
      · refine .cons_cons _ (.cons _ ?_)
        rw [List.append_assoc, List.append_assoc]
        exact (((List.Sublist.cons _ (List.Sublist.refl _)).append_left _).append_left _).append_left _
      · exact ret hall D' ys ys.length ss' _ _ h₀' (e₁.trans (e₂.trans (e₃.trans e₄))) T Γ₂ G₂ F₅ Λ₇ hp hso hrows
  · refine Γ₁.except O (fun g' s₃ e₃ T F₂ Λ₃ => ?_) (hEm _)
    refine wpAny_execs_cons (wpAny_Return_some (wpAny_Constant_none ?_))
    refine fin (.ret .none) .none _ _ (Rn ++ R) g' (.inl rfl) T F₂ (Λ₃.sub ((List.Sublist.cons _ (List.Sublist.refl _)).append_left _)) fun h₀' T Γ₂ G₂ F₅ Λ₇ => ?_
    exact ret2 hnot Rn _ h₀' (e₁.trans (e₂.trans e₃)) T Γ₂ G₂ F₅ Λ₇
end
end Mine
end
section
open PySem PySem.W PySem.Calls PyProof.Rows
namespace Mine
section
variable {w : World} {d : Nat} {cs : Scope} {cl : List (Str × Addr)} {A : Around} {env : Env} {L : Addr} {h₀ : Heap} {m : Str → Option Value} {R l : List (Addr × Obj)} {s : Shared} {E : Value → Shared → Prop}
/-- a list against an empty one -/
theorem eq_nil {Q : Value → Shared → Prop} {D D' : Addr} {vs : List Value} {n n' : Nat} (h1 : s.heap.get? D = some (W.listOf vs.toArray n)) (h2 : s.heap.get? D' = some (W.listOf #[] n')) (hu : A.units < cLine) (h : Q (.bool vs.isEmpty) s) :
    wpAny (model PG w) A (compareOp .Eq (.ref D) (.ref D')) Q E s := by
  refine cmp_ofEq ?_
  cases vs with
  | nil => exact (SeqAt.RcAt.lists (s := s) (A := A) (items := #[]) (items2 := #[]) (e := fun _ => true) ⟨_, h1, rfl, _, rfl⟩ ⟨_, h2, rfl, _, rfl⟩ rfl hu (fun j h => absurd h (Nat.not_lt_zero j))) PG w E Q h
  | cons v r => exact (SeqAt.RcAt.lists_lengths (s := s) (A := A) (items := (v :: r).toArray) (items2 := #[]) ⟨_, h1, rfl, _, rfl⟩ ⟨_, h2, rfl, _, rfl⟩ (by simp) hu) PG w E Q h
/-- a def within a def -/
theorem Fn.nest {Q : Value → Shared → Prop} {cn name qual : Str} {params : Arguments} {body : List Stmt} {scope : Scope} {clos : List (Str × Addr)} {a c P : Addr} {pos : Pos} {fl : Nat} (Γ : Fn w d cs cl A env L h₀) (he : env = envX cn cs L a (.ref c) cl) (F : Fr h₀ L s.heap m) (Λ : Led h₀ L s.heap ((P, tabObj #[]) :: R)) (C : CodeHd h₀ c P)
    (hcl : closOf cl scope.names [] = some clos)
    (ret : ∀ f fo c' oc vs t ctv doc pm ps s', fo = fnMade name qual params body scope clos doc pm c' ctv → Same s s' → Fr h₀ L s'.heap m → Led h₀ L s'.heap ((f, fo) :: (c', oc) :: (P, tabObj ps) :: R) → oc.data = .fields vs → vs[1]? = some (.str qual t) → Q (.ref f) s') :
    wpAny (model PG w) A (makeFunction name qual params (.stmts body) scope env [] [] [] pos fl) Q E s := by
  obtain ⟨_, _, _, _, _, _, _, _, _, c, _⟩ := Γ
  obtain ⟨_, _, _, _, _, _, _, _, _, T, _⟩ := c
  subst he
  refine nest_K (g := fun o => (P, o) :: R) F Λ.N T C rfl (.head Λ.ne) trivial rfl (clos_for hcl) fun f c' oc vs t ctv doc h' tk F' N' h1 h2 l1 l2 => ?_
  refine ret f _ c' oc vs t ctv doc _ _ _ rfl ⟨rfl, rfl, rfl⟩ F' ⟨N', ?_⟩ h1 h2
  have D := Λ.D
  simp only [List.map_cons, List.nodup_cons, List.mem_cons, not_or] at D ⊢
  have q : ∀ b, c' ≤ b → b ≠ P ∧ b ∉ R.map (·.1) := fun b hb => ⟨fun e => absurd (l1 _ (.head _)) (Nat.not_lt.mpr (e ▸ hb)), fun hm => by
    obtain ⟨p, hp, e⟩ := List.mem_map.mp hm
    exact absurd (l1 p (.tail _ hp)) (Nat.not_lt.mpr (e ▸ hb))⟩
  exact ⟨⟨Nat.ne_of_gt l2, q f (Nat.le_of_lt l2)⟩, q c' (Nat.le_refl _), D⟩
set_option maxHeartbeats 2000000 in
theorem taker_c {Q : Value → Shared → Prop} {a : Addr} {vs : List Value} {ns : List Int} (Γ : Fn w d cs cl A env L h₀) (G : Gd w A env L h₀) (hd' : d < 690) (F : Fr h₀ L s.heap m) (Λ : Led h₀ L s.heap ((221, tabObj #[]) :: R))
    (hS : h₀.IsList a vs.toArray) (hI : IntsAre vs ns) (hns : ns.length ≤ 63) (C : CodeHd h₀ 225 221)
    (ret : ∀ tk pl ks ps t R' s' h₀', Same s s' → Turn A env h₀ h₀' → Fn w d cs cl A env L h₀' → Gd w A env L h₀' → Fr h₀' L s'.heap m → Led h₀' L s'.heap ((pl, W.listOf [Value.int 0 t].toArray 0) :: (221, tabObj ps) :: (R' ++ R)) → TakeIn R' tk pl ks → Q (.ref tk) s') :
    wpAny (model PG w) A (call (.ref 226) [.ref a]) Q E s := by
  have X := Γ.X
  have hpg : PG = PySem.Challenge.rw_og0080_01.row.prog := rfl
  revert hpg X; k_fill; intro X hpg
  refine' Γ.enterT [(Str.ofString "script", .ref a)] G (by omega) F Λ ?b1 ?b2 ?b4 ?b5 ?b6 ?c1 fun A' env' g L' s₁ cells Q' E' e₁ hkp henv Γ₁ G₁ F₁ Y Λ₁ hE hEm fin => ?_
  case b1 => k_is
  case b2 => k_is
  case b4 => rfl
  case b5 => kernel_rfl
  case b6 => decide
  case c1 => kernel_rfl
  have Y : CellsAre _ [(Str.ofString "place", L' + 1 + 1), (Str.ofString "cells", L' + 1)] cells := Y
  obtain ⟨o1, o2, rfl, hc1, hc2⟩ := Y.two
  have hc1 : o1.data = .cell none := hc1
  have hc2 : o2.data = .cell none := hc2
  have henv : env' = envX _ _ L' _ _ [(Str.ofString "place", L' + 1 + 1), (Str.ofString "cells", L' + 1)] := henv
  have Γ₁ : Fn w (d + 1) _ [(Str.ofString "place", L' + 1 + 1), (Str.ofString "cells", L' + 1)] A' env' L' g := Γ₁
  obtain ⟨m₁, F₁, hm₁⟩ : ∃ m₁, Fr g L' s₁.heap m₁ ∧ m₁ (Str.ofString "script") = some (.ref a) := ⟨_, F₁, by kernel_rfl⟩
  have H₁ : Has [(Str.ofString "script", .ref a)] m₁ := Has.nil.cons hm₁
  generalize L' + 1 + 1 = c1 at Γ₁ Λ₁ henv Y
  generalize L' + 1 = c2 at Γ₁ Λ₁ henv Y
  have hSg : g.IsList a vs.toArray := hS.at fun o => hkp _ o
  have Cg := C.keeps hkp
  have hvl := hI.length
  -- cells = script[:40]
  refine wpAny_execs_cons (wpAny_Assign_Name (Subscript_ (Γ₁.lcl F₁ H₁.get (wpAny_Slice (wpAny_evalPart_none (wpAny_evalPart_some (wpAny_Constant_int (wpAny_evalPart_none ?_))))))))
  refine slice_list3 (s := { s₁ with toks := _ }) F₁ Λ₁.N (hSg.at fun o => F₁.keep _ o) IsPart.none (IsPart.int _ _) IsPart.none (by decide) (fun h' F₂ N₂ => ?_) (by with_unfolding_all rfl) (by intro _; with_unfolding_all rfl) (by rw [sizeLine_eq]; simp; omega)
  have hI2 := slice_ints_uptoW hI (y := 40) (by decide)
  have hl2 : (slicePick vs.toArray none (some 40) none).toList.length ≤ 40 := by rw [hI2.length, List.length_take]; exact Nat.min_le_left _ _
  have hcs : (ns.take 40).length ≤ 40 := by rw [List.length_take]; exact Nat.min_le_left _ _
  generalize hsp : slicePick vs.toArray none (some 40) none = sp at N₂ hI2 hl2
  obtain ⟨ys, rfl⟩ : ∃ ys : List Value, sp = ys.toArray := ⟨sp.toList, by simp⟩
  rw [show (ys.toArray).toList = ys by simp] at hI2 hl2
  have hI2 : IntsAre ys (ns.take 40) := hI2
  have Λ₂ : Led g L' h' ((c2, o2) :: (s₁.heap.objs.size + 1, W.listOf ys.toArray 0) :: (c1, o1) :: (221, tabObj #[]) :: R) := (Λ₁.cons N₂ fun p hp => Nat.lt_succ_of_lt (Heap.lt_size (Λ₁.N p hp).1)).pulls [2]
  generalize s₁.heap.objs.size + 1 = D at Λ₂
  refine Γ₁.stC F₂ (s := { s₁ with heap := h', toks := _ }) Λ₂ rfl hc2 fun s₃ o₃ e₃ F₃ Λ₃ hc3 => ?_
  -- if cells == []: cells = [1]
  refine wpAny_execs_cons (wpAny_mono (Q := fun f s' => f = .next ∧ ∃ D ys ks o T, Same s₃ s' ∧ Fr g L' s'.heap m₁ ∧ Led g L' s'.heap ((c2, o) :: (D, W.listOf ys.toArray 0) :: (c1, o1) :: (221, tabObj #[]) :: (T ++ R)) ∧ o.data = .cell (some (.ref D)) ∧ IntsAre ys ks ∧ 0 < ks.length ∧ ks.length ≤ 40) (wpAny_If (wpAny_isTrue_Compare1 (Γ₁.cel Λ₃.N rfl (.head _) hc3 (List_ (spliced_none (newList_l F₃ Λ₃ (by show 0 ≤ 1000; decide) fun t s₄ e₄ F₄ Λ₄ _ => ?_)))))) (fun f s' hm => ?_) fun _ _ e => e)
  · refine eq_nil (Λ₄.get (.tail _ (.tail _ (.head _)))) (Λ₄.get (.head _)) (Γ₁.units (by omega)) (wpAny_truthy_bool ?_)
    cases ys with
    | nil =>
      show wpAny (model PG w) A' (execs [_] env') _ _ _
      refine wpAny_execs_cons (wpAny_Assign_Name (List_ (spliced_more (wpAny_Constant_int (spliced_none (newList_l (s := { s₄ with toks := _ }) F₄ Λ₄ (by show 1 ≤ 1000; decide) fun D2 s₅ e₅ F₅ Λ₅ _ => ?_))))))
      have Λ₆ : Led g L' s₅.heap ((c2, o₃) :: (D2, W.listOf [Value.int 1 s₄.toks].toArray 0) :: (c1, o1) :: (221, tabObj #[]) :: ([(t, W.listOf #[] 0), (D, W.listOf #[] 0)] ++ R)) := Λ₅.pulls [5, 5, 2, 4]
      refine Γ₁.stC F₅ Λ₆ rfl hc3 fun s₆ o₆ e₆ F₆ Λ₇ hc6 => ?_
      exact wpAny_execs_nil ⟨rfl, D2, _, [1], o₆, _, e₄.trans (Same.trans (s' := { s₄ with toks := _ }) ⟨rfl, rfl, rfl⟩ (e₅.trans e₆)), F₆, Λ₇, hc6, .cons 1 _ .nil, by decide, by decide⟩
    | cons y ys =>
      show wpAny (model PG w) A' (execs [] env') _ _ _
      have hpos : 0 < (ns.take 40).length := by rw [← hI2.length]; exact Nat.succ_pos _
      exact wpAny_execs_nil ⟨rfl, D, _, ns.take 40, o₃, [(t, W.listOf #[] 0)], e₄, F₄, Λ₄.pulls [4, 4, 4, 4], hc3, hI2, hpos, hcs⟩
  · obtain ⟨rfl, D, ys, ks, o, T, e₄, F₄, Λ₄, hc, hIk, hk0, hk1⟩ := hm
    show wpAny (model PG w) A' (execs _ env') _ _ _
    -- place = [0]
    refine wpAny_execs_cons (wpAny_Assign_Name (List_ (spliced_more (wpAny_Constant_int (spliced_none (newList_l (s := { s' with toks := _ }) F₄ Λ₄ (by show 1 ≤ 1000; decide) fun pl s₅ e₅ F₅ Λ₅ _ => ?_))))))
    have Λ₆ : Led g L' s₅.heap ((c1, o1) :: (pl, W.listOf [Value.int 0 s'.toks].toArray 0) :: (c2, o) :: (D, W.listOf ys.toArray 0) :: (221, tabObj #[]) :: (T ++ R)) := Λ₅.pulls [3]
    refine Γ₁.stC F₅ Λ₆ rfl hc1 fun s₆ o₆ e₆ F₆ Λ₇ hc6 => ?_
    -- def take(limit)
    have Λ₈ : Led g L' s₆.heap ((221, tabObj #[]) :: (c1, o₆) :: (pl, W.listOf [Value.int 0 s'.toks].toArray 0) :: (c2, o) :: (D, W.listOf ys.toArray 0) :: (T ++ R)) := Λ₇.pulls [4]
    refine wpAny_execs_cons (nestDef_K rfl rfl (by rw [henv]; rfl) ?_)
    have hq : qualnameIn env' (Str.ofString "take") (Str.ofString "take") = Str.ofString "_law_taker.<locals>.take" := by rw [henv]; kernel_rfl
    rw [hq]
    refine Γ₁.nest henv F₆ Λ₈ Cg (clos := [(Str.ofString "place", c1), (Str.ofString "cells", c2)]) rfl fun f fo c' oc vs' t ctv doc pm ps s₇ hfo e₇ F₇ Λ₉ hoc hov => ?_
    refine Γ₁.st F₇ Λ₉ fun s₈ m₈ e₈ F₈ p₈ Λ₁₀ => ?_
    have H₈ := p₈.has H₁
    -- return take
    refine wpAny_execs_cons (wpAny_Return_some (Γ₁.lcl F₈ H₈.get ?_))
    have Λ₁₁ : Led g L' s₈.heap ((pl, W.listOf [Value.int 0 s'.toks].toArray 0) :: (221, tabObj ps) :: ((f, fo) :: (c', oc) :: (c1, o₆) :: (c2, o) :: (D, W.listOf ys.toArray 0) :: (T ++ R))) := Λ₁₀.pulls [2, 4]
    have Λ₁₂ : Led g L' s₈.heap ((pl, W.listOf [Value.int 0 s'.toks].toArray 0) :: (221, tabObj ps) :: (([(f, fo), (c', oc), (c1, o₆), (c2, o), (D, W.listOf ys.toArray 0)] ++ T) ++ R)) := by rw [List.append_assoc]; exact Λ₁₁
    refine fin (.ret (.ref f)) (.ref f) _ _ _ g (.inl rfl) (Turn.refl G₁) F₈ Λ₁₂ fun h₀' T' Γ₂ G₂ F₉ Λ₁₃ => ?_
    refine ret f pl ks ps _ _ _ h₀' ?_ T' Γ₂ G₂ F₉ Λ₁₃ ?_
    · exact e₁.trans (Same.trans (s' := { s₁ with heap := h', toks := _ }) ⟨rfl, rfl, rfl⟩ (e₃.trans (e₄.trans (Same.trans (s' := { s' with toks := _ }) ⟨rfl, rfl, rfl⟩ (e₅.trans (e₆.trans (e₇.trans e₈)))))))
    · refine ⟨_, _, _, doc, pm, c', ctv, oc, vs', t, c1, c2, o₆, o, D, ys, ⟨_, _, _, _, _, _, rfl⟩, ?_, .tail _ (.head _), hoc, hov, .tail _ (.tail _ (.head _)), hc6, .tail _ (.tail _ (.tail _ (.head _))), hc, .tail _ (.tail _ (.tail _ (.tail _ (.head _)))), hIk, hk0, hk1⟩
      rw [hfo]; exact .head _
end
end Mine
end
section
open PySem PySem.W PySem.Calls PyProof.Rows
namespace Mine
section
variable {w : World} {d : Nat} {cs : Scope} {cl : List (Str × Addr)} {A : Around} {env : Env} {L : Addr} {h₀ : Heap} {m : Str → Option Value} {R l : List (Addr × Obj)} {s : Shared} {E : Value → Shared → Prop}
theorem Fn.units64 (Γ : Fn w d cs cl A env L h₀) (hd : d < 2000) : A.units + 64 < cLine := by
  obtain ⟨_, _, _, _, _, _, _, rfl, _, _, _, h⟩ := Γ
  simp only [cLine]
  show _ + 64 < 9900
  omega
/-- a, b = <a tuple of the ledger> -/
theorem Fn.unp {elts : List PySem.Expr} {k : Nat} {pos : Pos} {t : Addr} {vs : List Value} {Q : Unit → Shared → Prop} (Γ : Fn w d cs cl A env L h₀) (F : Fr h₀ L s.heap m) (Λ : Led h₀ L s.heap l) (hm : (t, tupOf vs) ∈ l)
    (h : ∀ s', Same s s' → Fr h₀ L s'.heap m → Led h₀ L s'.heap l → wpAny (model PG w) A (assignInOrder ((assignEach elts env).map (·.2)) vs) Q E s')
    (hn : (assignEach elts env).length = vs.length := by rfl) (hstar : (assignEach elts env).findIdx? (·.1) = none := by rfl) : wpAny (model PG w) A (assign (.Tuple elts k pos) env (.ref t)) Q E s :=
  unpackN_ F Λ.N ⟨_, Λ.get hm, rfl, _, rfl⟩ Γ.handled (by simpa using hn) hstar fun h' F' N' => by
    have := h { s with heap := h' } ⟨rfl, rfl, rfl⟩ F' ⟨N', Λ.D⟩
    simpa using this
theorem Fn.unpI {t : Addr} {vs : List Value} {n : Nat} {Q : List Value → Shared → Prop} (Γ : Fn w d cs cl A env L h₀) (F : Fr h₀ L s.heap m) (Λ : Led h₀ L s.heap l) (hm : (t, tupOf vs) ∈ l) (hn : n = vs.length)
    (h : ∀ s', Same s s' → Fr h₀ L s'.heap m → Led h₀ L s'.heap l → Q vs s') : wpAny (model PG w) A (unpackItems (.ref t) n none) Q E s :=
  unpackItemsN_ F Λ.N ⟨_, Λ.get hm, rfl, _, rfl⟩ Γ.handled (by simpa using hn) fun h' F' N' => by
    have := h { s with heap := h' } ⟨rfl, rfl, rfl⟩ F' ⟨N', Λ.D⟩
    simpa using this
/-- a dict display with str keys -/
theorem Fn.dictD {keys : List (Option PySem.Expr)} {values : List PySem.Expr} {pos : Pos} {Q : Value → Shared → Prop} (Γ : Fn w d cs cl A env L h₀) (F : Fr h₀ L s.heap m) (Λ : Led h₀ L s.heap l)
    (h : ∀ q o s₁, Same s s₁ → Fr h₀ L s₁.heap m → Led h₀ L s₁.heap ((q, o) :: l) → (q == sysModules) = false → IsD w o [] → wpAny (model PG w) A (evalPairs (pairTrees keys values env pos)) (fun vs s₂ => KdnMade PG w (PySem.strKind PG w) q Q vs s₂) E s₁)
    (hst : strLits keys = true := by rfl) (hall : keys.all (·.isSome) = true := by rfl) (hl : keys.length = values.length := by rfl) (h0 : keys ≠ [] := by exact List.cons_ne_nil _ _) (hlen : keys.length ≤ 15 := by exact Nat.le_of_ble_eq_true rfl) :
    wpAny (model PG w) A (eval (.Dict keys values pos) env) Q E s := by
  obtain ⟨_, _, _, _, _, _, _, _, _, c, _⟩ := Γ
  obtain ⟨_, _, _, _, _, _, _, _, _, T, _⟩ := c
  exact kdn_str hst F Λ.N (TopRead.nolimit (topRead_of T)) hall hl h0 hlen fun q h' o F' N' l1 lo hd => h q o _ ⟨rfl, rfl, rfl⟩ F' (Λ.cons N' l1) lo hd
theorem made_l {q : Addr} {o : Obj} {vs : List (Value × Value)} {Q : Value → Shared → Prop} (F : Fr h₀ L s.heap m) (Λ : Led h₀ L s.heap ((q, o) :: R)) (hd : IsD w o []) (hn : ((strPairs vs).map (·.1)).Nodup)
    (ret : ∀ o' s', Same s s' → Fr h₀ L s'.heap m → Led h₀ L s'.heap ((q, o') :: R) → IsD w o' (strPairs vs) → Q (.ref q) s') (hk : allStrKeys vs = true := by rfl) : KdnMade PG w (PySem.strKind PG w) q Q vs s :=
  kdn_made_str (g := fun o => (q, o) :: R) F Λ.N (.head Λ.ne) hd hk hn fun h' o' F' N' hd' => ret o' _ ⟨rfl, rfl, rfl⟩ F' ⟨N', Λ.D⟩ hd'
theorem itemRec_put {vs : List (Str × Value)} {nm : Str} {c k : Addr} {v : Value} (I : ItemRec vs nm c k) : ItemRec (putV (Str.ofString "parent") v vs) nm c k :=
  ⟨by rw [lookup_putV_ne (by decide +kernel)]; exact I.1, by rw [lookup_putV_ne (by decide +kernel)]; exact I.2.1, by rw [lookup_putV_ne (by decide +kernel)]; exact I.2.2.1, by rw [lookup_putV_self]; rfl, by rw [lookup_putV_ne (by decide +kernel)]; exact I.2.2.2.2.1, by rw [length_putV I.2.2.2.1]; exact I.2.2.2.2.2⟩
end
theorem tree_leaf {P : Params} {nms : List Str} {T : List (Addr × Obj)} {x dx c k : Addr} {vs : List (Str × Value)} {tf : Nat → Tok} {nm : Str} {nk nc : Nat} {cs : List Addr} {zs : List Str} (h1 : (x, instObj 133 dx) ∈ T) (h2 : (dx, dictOf (entsD P tf vs) 19) ∈ T) (h3 : ItemRec vs nm c k)
    (h4 : (k, W.listOf ([] : List Value).toArray nk) ∈ T) (h5 : (c, W.listOf (cs.map Value.ref).toArray nc) ∈ T) (h6 : NamedsIn P T cs zs) (hz : zs.length ≤ 8) (hn : ∀ z ∈ zs, z ∈ nms) : TreeIn P nms T x nm zs :=
  ⟨.nil, fun _ => zs, ⟨⟨dx, vs, tf, nm, c, k, nk, nc, cs, h1, h2, h3, h4, h5, h6⟩, trivial, trivial⟩, (by show 1 ≤ 8; decide), hz, ⟨dx, vs, tf, c, k, h1, h2, h3⟩, fun z => ⟨fun h => ⟨x, .head _, h⟩, fun ⟨_, _, h⟩ => h⟩, hn⟩
theorem tree_chain {P : Params} {nms : List Str} {T : List (Addr × Obj)} {x y z : Addr} {nm : Str} {zs : List Str} (h1 : ItemAt P T x [y] []) (h2 : ItemAt P T y [z] []) (h3 : ItemAt P T z [] zs) (n1 : x ≠ z) (n2 : y ≠ z) (hnm : NameAt P T x nm) (hz : zs.length ≤ 8) (hn : ∀ z ∈ zs, z ∈ nms) : TreeIn P nms T x nm zs := by
  have w1 : (if x = z then zs else []) = ([] : List Str) := if_neg n1
  have w2 : (if y = z then zs else []) = ([] : List Str) := if_neg n2
  refine ⟨.cons y (.cons z .nil .nil) .nil, fun b => if b = z then zs else [], ⟨?_, ⟨?_, ⟨?_, trivial, trivial⟩, trivial⟩, trivial⟩, (by show 3 ≤ 8; decide), hz, hnm, fun q => ⟨fun h => ⟨z, .tail _ (.tail _ (.head _)), ?_⟩, fun ⟨b, _, h⟩ => ?_⟩, hn⟩
  · show ItemAt P T x [y] (if x = z then zs else [])
    rw [w1]; exact h1
  · show ItemAt P T y [z] (if y = z then zs else [])
    rw [w2]; exact h2
  · show ItemAt P T z [] (if z = z then zs else [])
    rw [if_pos rfl]; exact h3
  · show q ∈ (if z = z then zs else [])
    rw [if_pos rfl]; exact h
  · have h : q ∈ (if b = z then zs else []) := h
    by_cases hb : b = z
    · rw [if_pos hb] at h; exact h
    · rw [if_neg hb] at h; cases h
theorem DataIn.mono {w : World} {nms : List Str} {R R' : List (Addr × Obj)} {x : Addr} {ts1 ts2 : List Tr} {fts : List (Str × List Tr)} (h : ∀ p ∈ R, p ∈ R') (D : DataIn w nms R x ts1 ts2 fts) : DataIn w nms R' x ts1 ts2 fts := by
  obtain ⟨dx, vs, tf, wl, ll, fd, sl, n1, n2, o, kvs, i1, i2, D, i3, i4, i5, i6, lo, hT1, hT2, hF, l⟩ := D
  exact ⟨dx, vs, tf, wl, ll, fd, sl, n1, n2, o, kvs, h _ i1, h _ i2, D, h _ i3, h _ i4, h _ i5, i6, lo, hT1.mono h, hT2.mono h, hF.mono h, l⟩
/-- rows as data -/
def rowP (r : Row) : PyData := .tuple [.str r.1, .tuple (r.2.1.map PyData.str), .bool r.2.2]
def rowOk (r : Row) : Bool := PyData.strOk r.1 && r.2.1.all PyData.strOk
theorem strs_lay : ∀ {zs : List Str}, zs.all PyData.strOk = true → PyData.canLayAll0 (zs.map PyData.str) = true
  | [], _ => by simp [PyData.canLayAll0]
  | z :: zs, h => by
    rw [List.all_cons, Bool.and_eq_true] at h
    simp only [List.map_cons, PyData.canLayAll0, PyData.canLay0, h.1, strs_lay h.2, Bool.and_self]
theorem strs_dep : ∀ (zs : List Str), PyData.depthAll (zs.map PyData.str) = 0
  | [] => by simp [PyData.depthAll]
  | z :: zs => by simp only [List.map_cons, PyData.depthAll, PyData.depth, strs_dep zs, Nat.max_self]
theorem row_lay {r : Row} (h : rowOk r = true) : (rowP r).canLay0 = true ∧ (rowP r).depth ≤ 2 := by
  unfold rowOk at h
  rw [Bool.and_eq_true] at h
  unfold rowP
  simp only [PyData.canLay0, PyData.canLayAll0, PyData.depth, PyData.depthAll, strs_dep, h.1, strs_lay h.2]
  decide
theorem rows_lay : ∀ {rs : List Row}, (∀ r ∈ rs, rowOk r = true) → PyData.canLayAll0 (rs.map rowP) = true ∧ PyData.depthAll (rs.map rowP) ≤ 2
  | [], _ => by simp [PyData.canLayAll0, PyData.depthAll]
  | r :: rs, h => by
    obtain ⟨a, b⟩ := row_lay (h r (.head _))
    obtain ⟨c, d⟩ := rows_lay (rs := rs) fun q hq => h q (.tail _ hq)
    simp only [List.map_cons, PyData.canLayAll0, PyData.depthAll, a, c, Bool.and_self, true_and]
    exact Nat.max_le.mpr ⟨b, d⟩
theorem reads_strs {h : Heap} : ∀ {vs : List Value} {zs : List Str}, StrsAre vs zs → ∃ as, ReadsAll h vs (zs.map PyData.str) as
  | _, _, .nil => ⟨_, .nil⟩
  | _, _, .cons z t r => let ⟨_, x⟩ := reads_strs (h := h) r; ⟨_, .cons (.str z t) x⟩
theorem reads_rows {h₀ h : Heap} {L : Addr} {l : List (Addr × Obj)} (N : News h₀ L h l) : ∀ {vs : List Value} {rs : List Row}, RowsIn l vs rs → ∃ as, ReadsAll h vs (rs.map rowP) as
  | [], [], _ => ⟨_, .nil⟩
  | v :: vs, r :: rs, ⟨⟨a, t, q, us, e, h1, h2, h3⟩, hr⟩ => by
    obtain ⟨as, x⟩ := reads_rows N hr
    obtain ⟨bs, y⟩ := reads_strs (h := h) h3
    have yq : Reads h (.ref q) (.tuple (r.2.1.map PyData.str)) bs := reads_tuple_at (N.get h2) rfl rfl (by simpa using y)
    subst e
    exact ⟨_, .cons (reads_tuple_at (N.get h1) rfl rfl (.cons (.str _ t) (.cons yq (.cons (.bool _) .nil)))) x⟩
section
variable {w : World} {A : Around} {E : Value → Shared → Prop} {s : Shared} {h₀ : Heap} {L : Addr} {l : List (Addr × Obj)}
/-- two lists of the same rows -/
theorem ne_rows {Q : Value → Shared → Prop} {a b : Addr} {vs us : List Value} {rs : List Row} {n n' : Nat} (Λ : Led h₀ L s.heap l) (ha : (a, W.listOf vs.toArray n) ∈ l) (hb : (b, W.listOf us.toArray n') ∈ l) (h1 : RowsIn l vs rs) (h2 : RowsIn l us rs) (hok : ∀ r ∈ rs, rowOk r = true) (hu : A.units + 64 < cLine)
    (h : Q (.bool false) s) : wpAny (model PG w) A (compareOp .NotEq (.ref a) (.ref b)) Q E s := by
  obtain ⟨as, x⟩ := reads_rows Λ.N h1
  obtain ⟨bs, y⟩ := reads_rows Λ.N h2
  obtain ⟨c, d⟩ := rows_lay hok
  have hl : (PyData.list (rs.map rowP)).canLay0 = true := by simp only [PyData.canLay0, c]
  have hs : SeqAt.shaped (.list (rs.map rowP)) = true := by
    unfold SeqAt.shaped
    rw [hl, Bool.true_and]
    refine decide_eq_true ?_
    simp only [PyData.depth]
    omega
  exact ne_dataH (reads_list_at (Λ.get ha) rfl rfl (by simpa using x)) (reads_list_at (Λ.get hb) rfl rfl (by simpa using y)) hs hs hu (by rw [SeqAt.eqv_refl _ hl]; exact h)
theorem hits_true {kb : List (Str × Value)} : ∀ {ka : List (Str × Value)}, (∀ q ∈ ka, q.2 = .bool true ∧ valueAt kb q.1 = some (.bool true)) → KeqHits A s kb ka true
  | [], _ => .nil
  | (k, v) :: r, h => by
    obtain ⟨e1, e2⟩ := h _ (.head _)
    have := KeqHits.hit (A := A) (s := s) (v := v) (y := .bool true) (e := true) (b := true) e2 (by rw [show v = Value.bool true from e1]; exact SeqAt.EqAt.same _) (hits_true (ka := r) fun q hq => h q (.tail _ hq))
    exact this
/-- two dicts with the same names, all True -/
theorem eq_dicts {Q : Value → Shared → Prop} {a b : Addr} {oa ob : Obj} {ka kb : List (Str × Value)} (Λ : Led h₀ L s.heap l) (ha : (a, oa) ∈ l) (hb : (b, ob) ∈ l) (da : IsD w oa ka) (db : IsD w ob kb) (la : (a == sysModules) = false) (lb : (b == sysModules) = false)
    (va : ∀ q ∈ ka, q.2 = .bool true) (vb : ∀ q ∈ kb, q.2 = .bool true) (hk : ∀ z, z ∈ ka.map (·.1) ↔ z ∈ kb.map (·.1)) (hu : A.units < cLine) (h : Q (.bool true) s) : wpAny (model PG w) A (compareOp .Eq (.ref a) (.ref b)) Q E s := by
  have na : (ka.map (·.1)).Nodup := by obtain ⟨_, _, _, _, _, _, h⟩ := da; exact h
  have nb : (kb.map (·.1)).Nodup := by obtain ⟨_, _, _, _, _, _, h⟩ := db; exact h
  have l1 := len_le_of_sub na fun z hz => (hk z).mp hz
  have l2 := len_le_of_sub nb fun z hz => (hk z).mpr hz
  rw [List.length_map, List.length_map] at l1 l2
  have hl : (ka.length == kb.length) = true := beq_iff_eq.mpr (Nat.le_antisymm l1 l2)
  refine keq_eq (r := true) la lb (isD_at Λ ha da) (isD_at Λ hb db) hu (fun _ => hits_true fun q hq => ⟨va q hq, ?_⟩) (by rw [hl]; exact h)
  obtain ⟨p, hp, e⟩ := List.mem_map.mp ((hk q.1).mp (List.mem_map.mpr ⟨q, hq, rfl⟩))
  rw [← e]
  refine valueAt_mem nb ?_
  rw [← vb p hp]
  exact hp
end
end Mine
end
section
open PySem PySem.W PySem.Calls PyProof.Rows
namespace Mine
/-- the names of conditions of _law_written_right -/
def WN : List Str := [Str.ofString "IN-WORK", Str.ofString "DEEP", Str.ofString "IN-FILE"]
section
variable {w : World} {d : Nat} {cs : Scope} {cl : List (Str × Addr)} {A : Around} {env : Env} {L : Addr} {h₀ : Heap} {m : Str → Option Value} {R l : List (Addr × Obj)} {s : Shared} {E : Value → Shared → Prop}
set_option maxHeartbeats 2000000 in
theorem written_c {Q : Value → Shared → Prop} (Γ : Fn w d cs cl A env L h₀) (G : Gd w A env L h₀) (hd' : d < 600) (F : Fr h₀ L s.heap m) (Λ : Led h₀ L s.heap R)
    (ret : ∀ R' s' h₀', Same s s' → Turn A env h₀ h₀' → Fn w d cs cl A env L h₀' → Gd w A env L h₀' → Fr h₀' L s'.heap m → Led h₀' L s'.heap (R' ++ R) → Q (.bool true) s') :
    wpAny (model PG w) A (call (.ref 252) []) Q E s := by
  have X := Γ.X
  have hpg : PG = PySem.Challenge.rw_og0080_01.row.prog := rfl
  revert hpg X; k_fill; intro X hpg
  refine' Γ.enterT [] G (by omega) F Λ ?b1 ?b2 ?b4 ?b5 ?b6 ?c1 fun A' env' g L' s₁ cells Q' E' e₁ hkp henv Γ₁ G₁ F₁ Y Λ₁ hE hEm fin => ?_
  case b1 => k_is
  case b2 => k_is
  case b4 => rfl
  case b5 => kernel_rfl
  case b6 => decide
  case c1 => kernel_rfl
  have Y : CellsAre _ [] cells := Y
  cases Y
  have Λ₁ : Led g L' s₁.heap R := Λ₁
  have Γ₁ : Fn w (d + 1) _ [] A' env' L' g := Γ₁
  -- data = Data()
  refine wpAny_execs_cons (wpAny_Assign_Name (Γ₁.callK0 F₁ (.ref 159) ?_))
  refine Γ₁.data F₁ Λ₁ fun x dx wl ll fd sl vs tf s₂ e₂ F₂ Λ₂ D lo => ?_
  refine Γ₁.st F₂ Λ₂ fun s₃ m₃ e₃ F₃ p₃ Λ₃ => ?_
  have H₃ := p₃.has Has.nil
  -- data.working.append(Item(1, 'W'))
  refine wpAny_execs_cons (stmt_append (Γ₁.attr F₃ Λ₃.N H₃.get (.tail _ (.tail _ (.tail _ (.tail _ (.head _))))) (.tail _ (.tail _ (.tail _ (.tail _ (.tail _ (.head _)))))) D.1 ⟨wl, _, _, rfl, Λ₃.get (.tail _ (.tail _ (.tail _ (.head _)))), ?_⟩) (hi := Γ₁.inter))
  refine Γ₁.callK F₃ (.ref 133) (spliced_more (wpAny_Constant_int (spliced_more (wpAny_Constant_str (spliced_none ⟨⟨_, F₃⟩, ?_⟩)))))
  refine Γ₁.item (s := { s₃ with toks := _ }) F₃ Λ₃ fun xW dW cW kW vW tW s₄ e₄ F₄ Λ₄ IW => ?_
  have Λ₄ : Led g L' s₄.heap ((wl, W.listOf ([] : List Value).toArray 0) :: (kW, W.listOf ([] : List Value).toArray 0) :: (cW, W.listOf ([] : List Value).toArray 0) :: (xW, instObj 133 dW) :: (dW, dictOf (entsD w.params tW vW) 19) :: (sl, W.listOf ([] : List Value).toArray 0) :: (fd, dictOf [] 0) :: (ll, W.listOf ([] : List Value).toArray 0) :: (x, instObj 159 dx) :: (dx, dictOf (entsD w.params tf vs) 6) :: R) := Λ₄.pulls [7]
  refine app_l (s := { s₄ with toks := _ }) (its := []) F₄ Λ₄ (by show _ ≤ 10000; decide) fun s₅ e₅ F₅ Λ₅ => ?_
  -- data.working[0].conditions.append(Named('IN-WORK', ()))
  refine wpAny_execs_cons (stmt_append (Attribute_any_ (Subscript_ (Γ₁.attr F₅ Λ₅.N H₃.get (.tail _ (.tail _ (.tail _ (.tail _ (.tail _ (.tail _ (.tail _ (.tail _ (.head _))))))))) (.tail _ (.tail _ (.tail _ (.tail _ (.tail _ (.tail _ (.tail _ (.tail _ (.tail _ (.head _)))))))))) D.1 (wpAny_Constant_int (sub_at (s := { s₅ with toks := _ }) (i := 0) Λ₅.N (.head _) (by decide) (by decide) rfl ?_))))) (hi := Γ₁.inter))
  refine get_rec (s := { s₅ with toks := _ }) F₅ Γ₁.X Λ₅.N (.tail _ (.tail _ (.tail _ (.head _)))) (.tail _ (.tail _ (.tail _ (.tail _ (.head _))))) (by kernel_rfl) IW.2.1 rfl ⟨cW, _, _, rfl, Λ₅.get (.tail _ (.tail _ (.head _))), ?_⟩
  refine Γ₁.callK F₅ (.ref 86) (spliced_more (wpAny_Constant_str (spliced_more (Tuple_ (spliced_none (newTup_l (s := { s₅ with toks := _ }) F₅ Λ₅ (by show 0 ≤ 1000; decide) fun qW s₆ e₆ F₆ Λ₆ _ => spliced_none ⟨⟨_, F₆⟩, ?_⟩))))))
  refine Γ₁.named F₆ Λ₆ (.head _) fun nW dnW vnW tnW s₇ e₇ F₇ Λ₇ NW => ?_
  have Λ₇ : Led g L' s₇.heap ((cW, W.listOf ([] : List Value).toArray 0) :: (nW, instObj 86 dnW) :: (dnW, dictOf (entsD w.params tnW vnW) 2) :: (qW, tupOf []) :: (wl, W.listOf ([Value.ref xW] : List Value).toArray 1) :: (kW, W.listOf ([] : List Value).toArray 0) :: (xW, instObj 133 dW) :: (dW, dictOf (entsD w.params tW vW) 19) :: (sl, W.listOf ([] : List Value).toArray 0) :: (fd, dictOf [] 0) :: (ll, W.listOf ([] : List Value).toArray 0) :: (x, instObj 159 dx) :: (dx, dictOf (entsD w.params tf vs) 6) :: R) := Λ₇.pulls [5]
  refine app_l (s := { s₇ with toks := _ }) (its := []) F₇ Λ₇ (by show _ ≤ 10000; decide) fun s₈ e₈ F₈ Λ₈ => ?_
  -- data.linkage.append(Item(1, 'L'))
  refine wpAny_execs_cons (stmt_append (Γ₁.attr F₈ Λ₈.N H₃.get (.tail _ (.tail _ (.tail _ (.tail _ (.tail _ (.tail _ (.tail _ (.tail _ (.tail _ (.tail _ (.tail _ (.head _)))))))))))) (.tail _ (.tail _ (.tail _ (.tail _ (.tail _ (.tail _ (.tail _ (.tail _ (.tail _ (.tail _ (.tail _ (.tail _ (.head _))))))))))))) D.2.1 ⟨ll, _, _, rfl, Λ₈.get (.tail _ (.tail _ (.tail _ (.tail _ (.tail _ (.tail _ (.tail _ (.tail _ (.tail _ (.tail _ (.head _))))))))))), ?_⟩) (hi := Γ₁.inter))
  refine Γ₁.callK F₈ (.ref 133) (spliced_more (wpAny_Constant_int (spliced_more (wpAny_Constant_str (spliced_none ⟨⟨_, F₈⟩, ?_⟩)))))
  refine Γ₁.item (s := { s₈ with toks := _ }) F₈ Λ₈ fun xL dL cL kL vL tL s₉ e₉ F₉ Λ₉ IL => ?_
  have Λ₉ : Led g L' s₉.heap ((ll, W.listOf ([] : List Value).toArray 0) :: (kL, W.listOf ([] : List Value).toArray 0) :: (cL, W.listOf ([] : List Value).toArray 0) :: (xL, instObj 133 dL) :: (dL, dictOf (entsD w.params tL vL) 19) :: (cW, W.listOf ([Value.ref nW] : List Value).toArray 1) :: (nW, instObj 86 dnW) :: (dnW, dictOf (entsD w.params tnW vnW) 2) :: (qW, tupOf []) :: (wl, W.listOf ([Value.ref xW] : List Value).toArray 1) :: (kW, W.listOf ([] : List Value).toArray 0) :: (xW, instObj 133 dW) :: (dW, dictOf (entsD w.params tW vW) 19) :: (sl, W.listOf ([] : List Value).toArray 0) :: (fd, dictOf [] 0) :: (x, instObj 159 dx) :: (dx, dictOf (entsD w.params tf vs) 6) :: R) := Λ₉.pulls [14]
  refine app_l (s := { s₉ with toks := _ }) (its := []) F₉ Λ₉ (by show _ ≤ 10000; decide) fun s₁₀ e₁₀ F₁₀ Λ₁₀ => ?_
  -- below, deep = (Item(2, 'X'), Item(3, 'Y'))
  refine wpAny_execs_cons (Assign_Tuple_swapped (names := [Str.ofString "below", Str.ofString "deep"]) (Tuple_ (spliced_more ?_)) (hs := by rw [henv]; rfl) (hw := by rw [henv]; kernel_rfl))
  refine Γ₁.callK F₁₀ (.ref 133) (spliced_more (wpAny_Constant_int (spliced_more (wpAny_Constant_str (spliced_none ⟨⟨_, F₁₀⟩, ?_⟩)))))
  refine Γ₁.item (s := { s₁₀ with toks := _ }) F₁₀ Λ₁₀ fun xX dX cX kX vX tX s₁₁ e₁₁ F₁₁ Λ₁₁ IX => ?_
  refine spliced_more ?_
  refine Γ₁.callK F₁₁ (.ref 133) (spliced_more (wpAny_Constant_int (spliced_more (wpAny_Constant_str (spliced_none ⟨⟨_, F₁₁⟩, ?_⟩)))))
  refine Γ₁.item (s := { s₁₁ with toks := _ }) F₁₁ Λ₁₁ fun xY dY cY kY vY tY s₁₂ e₁₂ F₁₂ Λ₁₂ IY => ?_
  refine spliced_none (newTup_l F₁₂ Λ₁₂ (by show 2 ≤ 1000; decide) fun tp s₁₃ e₁₃ F₁₃ Λ₁₃ _ => ?_)
  refine Γ₁.unpI F₁₃ Λ₁₃ (.head _) rfl fun s₁₄ e₁₄ F₁₄ Λ₁₄ => ?_
  refine assignInOrder_cons (bindName_ (Γ₁.st F₁₄ Λ₁₄ fun s₁₅ m₁₅ e₁₅ F₁₅ p₁₅ Λ₁₅ => ?_))
  have H₁₅ := p₁₅.has H₃
  refine assignInOrder_cons (bindName_ (Γ₁.st F₁₅ Λ₁₅ fun s₁₆ m₁₆ e₁₆ F₁₆ p₁₆ Λ₁₆ => assignInOrder_nil ?_))
  have H₃ := p₁₆.has H₁₅
  -- data.linkage[0].add(below)
  refine wpAny_execs_cons (wpAny_Expr_any (methodCall_KW (Subscript_ (Γ₁.attr F₁₆ Λ₁₆.N H₃.get (.tail _ (.tail _ (.tail _ (.tail _ (.tail _ (.tail _ (.tail _ (.tail _ (.tail _ (.tail _ (.tail _ (.tail _ (.tail _ (.tail _ (.tail _ (.tail _ (.tail _ (.tail _ (.tail _ (.tail _ (.tail _ (.tail _ (.tail _ (.tail _ (.head _))))))))))))))))))))))))) (.tail _ (.tail _ (.tail _ (.tail _ (.tail _ (.tail _ (.tail _ (.tail _ (.tail _ (.tail _ (.tail _ (.tail _ (.tail _ (.tail _ (.tail _ (.tail _ (.tail _ (.tail _ (.tail _ (.tail _ (.tail _ (.tail _ (.tail _ (.tail _ (.tail _ (.head _)))))))))))))))))))))))))) D.2.1 (wpAny_Constant_int (sub_at (s := { s₁₆ with toks := _ }) (i := 0) Λ₁₆.N (.tail _ (.tail _ (.tail _ (.tail _ (.tail _ (.tail _ (.tail _ (.tail _ (.tail _ (.head _)))))))))) (by decide) (by decide) rfl ?_)))) rfl) Γ₁.inter rfl)
  refine method_rec (s := { s₁₆ with toks := _ }) (n := 19) (tf := tL) (C := 133) (dx := dL) (f := 111) F₁₆ Γ₁.X Λ₁₆.N (.tail _ (.tail _ (.tail _ (.tail _ (.tail _ (.tail _ (.tail _ (.tail _ (.tail _ (.tail _ (.tail _ (.tail _ (.head _))))))))))))) (.tail _ (.tail _ (.tail _ (.tail _ (.tail _ (.tail _ (.tail _ (.tail _ (.tail _ (.tail _ (.tail _ (.tail _ (.tail _ (.head _)))))))))))))) (by kernel_rfl) (by kernel_rfl) (by kernel_rfl) IL.2.2.2.2.1 ?_
  refine callWith_K Γ₁.X (by kernel_rfl) (spliced_more (Γ₁.lcl F₁₆ H₃.get (spliced_none ⟨Γ₁.X.keeps F₁₆.keep, ?_⟩)))
  have Λ₁₆ : Led g L' s₁₆.heap ((dX, dictOf (entsD w.params tX vX) 19) :: (kL, W.listOf ([] : List Value).toArray 0) :: (tp, tupOf [.ref xX, .ref xY]) :: (kY, W.listOf ([] : List Value).toArray 0) :: (cY, W.listOf ([] : List Value).toArray 0) :: (xY, instObj 133 dY) :: (dY, dictOf (entsD w.params tY vY) 19) :: (kX, W.listOf ([] : List Value).toArray 0) :: (cX, W.listOf ([] : List Value).toArray 0) :: (xX, instObj 133 dX) :: (ll, W.listOf ([Value.ref xL] : List Value).toArray 1) :: (cL, W.listOf ([] : List Value).toArray 0) :: (xL, instObj 133 dL) :: (dL, dictOf (entsD w.params tL vL) 19) :: (cW, W.listOf ([Value.ref nW] : List Value).toArray 1) :: (nW, instObj 86 dnW) :: (dnW, dictOf (entsD w.params tnW vnW) 2) :: (qW, tupOf []) :: (wl, W.listOf ([Value.ref xW] : List Value).toArray 1) :: (kW, W.listOf ([] : List Value).toArray 0) :: (xW, instObj 133 dW) :: (dW, dictOf (entsD w.params tW vW) 19) :: (sl, W.listOf ([] : List Value).toArray 0) :: (fd, dictOf [] 0) :: (x, instObj 159 dx) :: (dx, dictOf (entsD w.params tf vs) 6) :: R) := Λ₁₆.pulls [10, 9]
  refine Γ₁.add (s := { s₁₆ with toks := _ }) (dx := dL) (nx := 19) (tx := tL) (ks := []) (n := 0) F₁₆ Λ₁₆ (.tail _ (.tail _ (.tail _ (.tail _ (.tail _ (.tail _ (.tail _ (.tail _ (.tail _ (.tail _ (.head _))))))))))) (.tail _ (.tail _ (.tail _ (.tail _ (.tail _ (.tail _ (.tail _ (.tail _ (.tail _ (.tail _ (.tail _ (.head _)))))))))))) IL.2.2.1 (.tail _ (.tail _ (.tail _ (.tail _ (.tail _ (.tail _ (.tail _ (.head _)))))))) IX.2.2.2.1 (by rw [IX.2.2.2.2.2]; decide) (by decide) fun tX s₁₇ e₁₇ F₁₇ Λ₁₇ => ?_
  have IX := itemRec_put (v := .ref xL) IX
  generalize putV (Str.ofString "parent") (Value.ref xL) vX = vX at Λ₁₇ IX
  -- below.add(deep)
  refine wpAny_execs_cons (wpAny_Expr_any (methodCall_KW (Γ₁.lcl F₁₇ H₃.get ?_) rfl) Γ₁.inter rfl)
  refine method_rec (s := { s₁₇ with toks := _ }) (n := 19) (tf := tX) (C := 133) (dx := dX) (f := 111) F₁₇ Γ₁.X Λ₁₇.N (.tail _ (.tail _ (.tail _ (.tail _ (.tail _ (.tail _ (.tail _ (.tail _ (.tail _ (.head _)))))))))) (.head _) (by kernel_rfl) (by kernel_rfl) (by kernel_rfl) IX.2.2.2.2.1 ?_
  refine callWith_K Γ₁.X (by kernel_rfl) (spliced_more (Γ₁.lcl F₁₇ H₃.get (spliced_none ⟨Γ₁.X.keeps F₁₇.keep, ?_⟩)))
  have Λ₁₇ : Led g L' s₁₇.heap ((dY, dictOf (entsD w.params tY vY) 19) :: (kX, W.listOf ([] : List Value).toArray 0) :: (dX, dictOf (entsD w.params tX vX) 19) :: (kL, W.listOf ([Value.ref xX] : List Value).toArray 1) :: (tp, tupOf [.ref xX, .ref xY]) :: (kY, W.listOf ([] : List Value).toArray 0) :: (cY, W.listOf ([] : List Value).toArray 0) :: (xY, instObj 133 dY) :: (cX, W.listOf ([] : List Value).toArray 0) :: (xX, instObj 133 dX) :: (ll, W.listOf ([Value.ref xL] : List Value).toArray 1) :: (cL, W.listOf ([] : List Value).toArray 0) :: (xL, instObj 133 dL) :: (dL, dictOf (entsD w.params tL vL) 19) :: (cW, W.listOf ([Value.ref nW] : List Value).toArray 1) :: (nW, instObj 86 dnW) :: (dnW, dictOf (entsD w.params tnW vnW) 2) :: (qW, tupOf []) :: (wl, W.listOf ([Value.ref xW] : List Value).toArray 1) :: (kW, W.listOf ([] : List Value).toArray 0) :: (xW, instObj 133 dW) :: (dW, dictOf (entsD w.params tW vW) 19) :: (sl, W.listOf ([] : List Value).toArray 0) :: (fd, dictOf [] 0) :: (x, instObj 159 dx) :: (dx, dictOf (entsD w.params tf vs) 6) :: R) := Λ₁₇.pulls [7, 7]
  refine Γ₁.add (s := { s₁₇ with toks := _ }) (dx := dX) (nx := 19) (tx := tX) (ks := []) (n := 0) F₁₇ Λ₁₇ (.tail _ (.tail _ (.tail _ (.tail _ (.tail _ (.tail _ (.tail _ (.head _)))))))) (.head _) IX.2.2.1 (.tail _ (.tail _ (.tail _ (.tail _ (.tail _ (.head _)))))) IY.2.2.2.1 (by rw [IY.2.2.2.2.2]; decide) (by decide) fun tY s₁₈ e₁₈ F₁₈ Λ₁₈ => ?_
  have IY := itemRec_put (v := .ref xX) IY
  generalize putV (Str.ofString "parent") (Value.ref xX) vY = vY at Λ₁₈ IY
  -- deep.conditions.append(Named('DEEP', ()))
  refine wpAny_execs_cons (stmt_append (Γ₁.attr (C := 133) (tf := tY) (n := 19) F₁₈ Λ₁₈.N H₃.get (.tail _ (.tail _ (.tail _ (.tail _ (.tail _ (.tail _ (.tail _ (.head _)))))))) (.head _) IY.2.1 ⟨cY, _, _, rfl, Λ₁₈.get (.tail _ (.tail _ (.tail _ (.tail _ (.tail _ (.tail _ (.head _))))))), ?_⟩) (hi := Γ₁.inter))
  refine Γ₁.callK F₁₈ (.ref 86) (spliced_more (wpAny_Constant_str (spliced_more (Tuple_ (spliced_none (newTup_l (s := { s₁₈ with toks := _ }) F₁₈ Λ₁₈ (by show 0 ≤ 1000; decide) fun qY s₁₉ e₁₉ F₁₉ Λ₁₉ _ => spliced_none ⟨⟨_, F₁₉⟩, ?_⟩))))))
  refine Γ₁.named F₁₉ Λ₁₉ (.head _) fun nY dnY vnY tnY s₂₀ e₂₀ F₂₀ Λ₂₀ NY => ?_
  have Λ₂₀ : Led g L' s₂₀.heap ((cY, W.listOf ([] : List Value).toArray 0) :: (nY, instObj 86 dnY) :: (dnY, dictOf (entsD w.params tnY vnY) 2) :: (qY, tupOf []) :: (dY, dictOf (entsD w.params tY vY) 19) :: (kX, W.listOf ([Value.ref xY] : List Value).toArray 1) :: (dX, dictOf (entsD w.params tX vX) 19) :: (kL, W.listOf ([Value.ref xX] : List Value).toArray 1) :: (tp, tupOf [.ref xX, .ref xY]) :: (kY, W.listOf ([] : List Value).toArray 0) :: (xY, instObj 133 dY) :: (cX, W.listOf ([] : List Value).toArray 0) :: (xX, instObj 133 dX) :: (ll, W.listOf ([Value.ref xL] : List Value).toArray 1) :: (cL, W.listOf ([] : List Value).toArray 0) :: (xL, instObj 133 dL) :: (dL, dictOf (entsD w.params tL vL) 19) :: (cW, W.listOf ([Value.ref nW] : List Value).toArray 1) :: (nW, instObj 86 dnW) :: (dnW, dictOf (entsD w.params tnW vnW) 2) :: (qW, tupOf []) :: (wl, W.listOf ([Value.ref xW] : List Value).toArray 1) :: (kW, W.listOf ([] : List Value).toArray 0) :: (xW, instObj 133 dW) :: (dW, dictOf (entsD w.params tW vW) 19) :: (sl, W.listOf ([] : List Value).toArray 0) :: (fd, dictOf [] 0) :: (x, instObj 159 dx) :: (dx, dictOf (entsD w.params tf vs) 6) :: R) := Λ₂₀.pulls [9]
  refine app_l (s := { s₂₀ with toks := _ }) (its := []) F₂₀ Λ₂₀ (by show _ ≤ 10000; decide) fun s₂₁ e₂₁ F₂₁ Λ₂₁ => ?_
  -- data.files['F'] = [Item(1, 'R'), Item(1, 'Q')]
  refine wpAny_execs_cons (wpAny_Assign_Subscript (List_ (spliced_more ?_)))
  refine Γ₁.callK F₂₁ (.ref 133) (spliced_more (wpAny_Constant_int (spliced_more (wpAny_Constant_str (spliced_none ⟨⟨_, F₂₁⟩, ?_⟩)))))
  refine Γ₁.item (s := { s₂₁ with toks := _ }) F₂₁ Λ₂₁ fun xR dR cR kR vR tR s₂₂ e₂₂ F₂₂ Λ₂₂ IR => ?_
  refine spliced_more ?_
  refine Γ₁.callK F₂₂ (.ref 133) (spliced_more (wpAny_Constant_int (spliced_more (wpAny_Constant_str (spliced_none ⟨⟨_, F₂₂⟩, ?_⟩)))))
  refine Γ₁.item (s := { s₂₂ with toks := _ }) F₂₂ Λ₂₂ fun xQ dQ cQ kQ vQ tQ s₂₃ e₂₃ F₂₃ Λ₂₃ IQ => ?_
  refine spliced_none (newList_l F₂₃ Λ₂₃ (by show 2 ≤ 1000; decide) fun fl s₂₄ e₂₄ F₂₄ Λ₂₄ _ => ?_)
  refine Γ₁.attr F₂₄ Λ₂₄.N H₃.get (.tail _ (.tail _ (.tail _ (.tail _ (.tail _ (.tail _ (.tail _ (.tail _ (.tail _ (.tail _ (.tail _ (.tail _ (.tail _ (.tail _ (.tail _ (.tail _ (.tail _ (.tail _ (.tail _ (.tail _ (.tail _ (.tail _ (.tail _ (.tail _ (.tail _ (.tail _ (.tail _ (.tail _ (.tail _ (.tail _ (.tail _ (.tail _ (.tail _ (.tail _ (.tail _ (.tail _ (.head _))))))))))))))))))))))))))))))))))))) (.tail _ (.tail _ (.tail _ (.tail _ (.tail _ (.tail _ (.tail _ (.tail _ (.tail _ (.tail _ (.tail _ (.tail _ (.tail _ (.tail _ (.tail _ (.tail _ (.tail _ (.tail _ (.tail _ (.tail _ (.tail _ (.tail _ (.tail _ (.tail _ (.tail _ (.tail _ (.tail _ (.tail _ (.tail _ (.tail _ (.tail _ (.tail _ (.tail _ (.tail _ (.tail _ (.tail _ (.tail _ (.head _)))))))))))))))))))))))))))))))))))))) D.2.2.1 (wpAny_Constant_str ?_)
  have Λ₂₄ : Led g L' s₂₄.heap ((fd, dictOf [] 0) :: (fl, W.listOf ([Value.ref xR, Value.ref xQ] : List Value).toArray 0) :: (kQ, W.listOf ([] : List Value).toArray 0) :: (cQ, W.listOf ([] : List Value).toArray 0) :: (xQ, instObj 133 dQ) :: (dQ, dictOf (entsD w.params tQ vQ) 19) :: (kR, W.listOf ([] : List Value).toArray 0) :: (cR, W.listOf ([] : List Value).toArray 0) :: (xR, instObj 133 dR) :: (dR, dictOf (entsD w.params tR vR) 19) :: (cY, W.listOf ([Value.ref nY] : List Value).toArray 1) :: (nY, instObj 86 dnY) :: (dnY, dictOf (entsD w.params tnY vnY) 2) :: (qY, tupOf []) :: (dY, dictOf (entsD w.params tY vY) 19) :: (kX, W.listOf ([Value.ref xY] : List Value).toArray 1) :: (dX, dictOf (entsD w.params tX vX) 19) :: (kL, W.listOf ([Value.ref xX] : List Value).toArray 1) :: (tp, tupOf [.ref xX, .ref xY]) :: (kY, W.listOf ([] : List Value).toArray 0) :: (xY, instObj 133 dY) :: (cX, W.listOf ([] : List Value).toArray 0) :: (xX, instObj 133 dX) :: (ll, W.listOf ([Value.ref xL] : List Value).toArray 1) :: (cL, W.listOf ([] : List Value).toArray 0) :: (xL, instObj 133 dL) :: (dL, dictOf (entsD w.params tL vL) 19) :: (cW, W.listOf ([Value.ref nW] : List Value).toArray 1) :: (nW, instObj 86 dnW) :: (dnW, dictOf (entsD w.params tnW vnW) 2) :: (qW, tupOf []) :: (wl, W.listOf ([Value.ref xW] : List Value).toArray 1) :: (kW, W.listOf ([] : List Value).toArray 0) :: (xW, instObj 133 dW) :: (dW, dictOf (entsD w.params tW vW) 19) :: (sl, W.listOf ([] : List Value).toArray 0) :: (x, instObj 159 dx) :: (dx, dictOf (entsD w.params tf vs) 6) :: R) := Λ₂₄.pulls [35]
  refine put_l (s := { s₂₄ with toks := _ }) F₂₄ Λ₂₄ isD_nil (by decide) fun od s₂₅ e₂₅ F₂₅ Λ₂₅ hod => ?_
  have hod : IsD w od [(Str.ofString "F", Value.ref fl)] := hod
  -- data.files['F'][1].conditions.append(Named('IN-FILE', ()))
  refine wpAny_execs_cons (stmt_append (Attribute_any_ (Subscript_ (Subscript_ (Γ₁.attr F₂₅ Λ₂₅.N H₃.get (.tail _ (.tail _ (.tail _ (.tail _ (.tail _ (.tail _ (.tail _ (.tail _ (.tail _ (.tail _ (.tail _ (.tail _ (.tail _ (.tail _ (.tail _ (.tail _ (.tail _ (.tail _ (.tail _ (.tail _ (.tail _ (.tail _ (.tail _ (.tail _ (.tail _ (.tail _ (.tail _ (.tail _ (.tail _ (.tail _ (.tail _ (.tail _ (.tail _ (.tail _ (.tail _ (.tail _ (.head _))))))))))))))))))))))))))))))))))))) (.tail _ (.tail _ (.tail _ (.tail _ (.tail _ (.tail _ (.tail _ (.tail _ (.tail _ (.tail _ (.tail _ (.tail _ (.tail _ (.tail _ (.tail _ (.tail _ (.tail _ (.tail _ (.tail _ (.tail _ (.tail _ (.tail _ (.tail _ (.tail _ (.tail _ (.tail _ (.tail _ (.tail _ (.tail _ (.tail _ (.tail _ (.tail _ (.tail _ (.tail _ (.tail _ (.tail _ (.tail _ (.head _)))))))))))))))))))))))))))))))))))))) D.2.2.1 (wpAny_Constant_str (get_l (s := { s₂₅ with toks := _ }) Λ₂₅ (.head _) hod (v := .ref fl) rfl (wpAny_Constant_int (sub_at (s := { s₂₅ with toks := _ }) (i := 1) Λ₂₅.N (.tail _ (.head _)) (by decide) (by decide) rfl ?_)))))))) (hi := Γ₁.inter))
  refine get_rec (s := { s₂₅ with toks := _ }) F₂₅ Γ₁.X Λ₂₅.N (.tail _ (.tail _ (.tail _ (.tail _ (.head _))))) (.tail _ (.tail _ (.tail _ (.tail _ (.tail _ (.head _)))))) (by kernel_rfl) IQ.2.1 rfl ⟨cQ, _, _, rfl, Λ₂₅.get (.tail _ (.tail _ (.tail _ (.head _)))), ?_⟩
  refine Γ₁.callK F₂₅ (.ref 86) (spliced_more (wpAny_Constant_str (spliced_more (Tuple_ (spliced_none (newTup_l (s := { s₂₅ with toks := _ }) F₂₅ Λ₂₅ (by show 0 ≤ 1000; decide) fun qQ s₂₆ e₂₆ F₂₆ Λ₂₆ _ => spliced_none ⟨⟨_, F₂₆⟩, ?_⟩))))))
  refine Γ₁.named F₂₆ Λ₂₆ (.head _) fun nQ dnQ vnQ tnQ s₂₇ e₂₇ F₂₇ Λ₂₇ NQ => ?_
  have Λ₂₇ : Led g L' s₂₇.heap ((cQ, W.listOf ([] : List Value).toArray 0) :: (nQ, instObj 86 dnQ) :: (dnQ, dictOf (entsD w.params tnQ vnQ) 2) :: (qQ, tupOf []) :: (fd, od) :: (fl, W.listOf ([Value.ref xR, Value.ref xQ] : List Value).toArray 0) :: (kQ, W.listOf ([] : List Value).toArray 0) :: (xQ, instObj 133 dQ) :: (dQ, dictOf (entsD w.params tQ vQ) 19) :: (kR, W.listOf ([] : List Value).toArray 0) :: (cR, W.listOf ([] : List Value).toArray 0) :: (xR, instObj 133 dR) :: (dR, dictOf (entsD w.params tR vR) 19) :: (cY, W.listOf ([Value.ref nY] : List Value).toArray 1) :: (nY, instObj 86 dnY) :: (dnY, dictOf (entsD w.params tnY vnY) 2) :: (qY, tupOf []) :: (dY, dictOf (entsD w.params tY vY) 19) :: (kX, W.listOf ([Value.ref xY] : List Value).toArray 1) :: (dX, dictOf (entsD w.params tX vX) 19) :: (kL, W.listOf ([Value.ref xX] : List Value).toArray 1) :: (tp, tupOf [.ref xX, .ref xY]) :: (kY, W.listOf ([] : List Value).toArray 0) :: (xY, instObj 133 dY) :: (cX, W.listOf ([] : List Value).toArray 0) :: (xX, instObj 133 dX) :: (ll, W.listOf ([Value.ref xL] : List Value).toArray 1) :: (cL, W.listOf ([] : List Value).toArray 0) :: (xL, instObj 133 dL) :: (dL, dictOf (entsD w.params tL vL) 19) :: (cW, W.listOf ([Value.ref nW] : List Value).toArray 1) :: (nW, instObj 86 dnW) :: (dnW, dictOf (entsD w.params tnW vnW) 2) :: (qW, tupOf []) :: (wl, W.listOf ([Value.ref xW] : List Value).toArray 1) :: (kW, W.listOf ([] : List Value).toArray 0) :: (xW, instObj 133 dW) :: (dW, dictOf (entsD w.params tW vW) 19) :: (sl, W.listOf ([] : List Value).toArray 0) :: (x, instObj 159 dx) :: (dx, dictOf (entsD w.params tf vs) 6) :: R) := Λ₂₇.pulls [6]
  refine app_l (s := { s₂₇ with toks := _ }) (its := []) F₂₇ Λ₂₇ (by show _ ≤ 10000; decide) fun s₂₈ e₂₈ F₂₈ Λ₂₈ => ?_
  -- data.sorts.append('F')
  refine wpAny_execs_cons (stmt_append (Γ₁.attr F₂₈ Λ₂₈.N H₃.get (.tail _ (.tail _ (.tail _ (.tail _ (.tail _ (.tail _ (.tail _ (.tail _ (.tail _ (.tail _ (.tail _ (.tail _ (.tail _ (.tail _ (.tail _ (.tail _ (.tail _ (.tail _ (.tail _ (.tail _ (.tail _ (.tail _ (.tail _ (.tail _ (.tail _ (.tail _ (.tail _ (.tail _ (.tail _ (.tail _ (.tail _ (.tail _ (.tail _ (.tail _ (.tail _ (.tail _ (.tail _ (.tail _ (.tail _ (.head _)))))))))))))))))))))))))))))))))))))))) (.tail _ (.tail _ (.tail _ (.tail _ (.tail _ (.tail _ (.tail _ (.tail _ (.tail _ (.tail _ (.tail _ (.tail _ (.tail _ (.tail _ (.tail _ (.tail _ (.tail _ (.tail _ (.tail _ (.tail _ (.tail _ (.tail _ (.tail _ (.tail _ (.tail _ (.tail _ (.tail _ (.tail _ (.tail _ (.tail _ (.tail _ (.tail _ (.tail _ (.tail _ (.tail _ (.tail _ (.tail _ (.tail _ (.tail _ (.tail _ (.head _))))))))))))))))))))))))))))))))))))))))) D.2.2.2.1 ⟨sl, _, _, rfl, Λ₂₈.get (.tail _ (.tail _ (.tail _ (.tail _ (.tail _ (.tail _ (.tail _ (.tail _ (.tail _ (.tail _ (.tail _ (.tail _ (.tail _ (.tail _ (.tail _ (.tail _ (.tail _ (.tail _ (.tail _ (.tail _ (.tail _ (.tail _ (.tail _ (.tail _ (.tail _ (.tail _ (.tail _ (.tail _ (.tail _ (.tail _ (.tail _ (.tail _ (.tail _ (.tail _ (.tail _ (.tail _ (.tail _ (.tail _ (.head _))))))))))))))))))))))))))))))))))))))), ?_⟩) (hi := Γ₁.inter))
  refine wpAny_Constant_str ?_
  have Λ₂₈ : Led g L' s₂₈.heap ((sl, W.listOf ([] : List Value).toArray 0) :: (cQ, W.listOf ([Value.ref nQ] : List Value).toArray 1) :: (nQ, instObj 86 dnQ) :: (dnQ, dictOf (entsD w.params tnQ vnQ) 2) :: (qQ, tupOf []) :: (fd, od) :: (fl, W.listOf ([Value.ref xR, Value.ref xQ] : List Value).toArray 0) :: (kQ, W.listOf ([] : List Value).toArray 0) :: (xQ, instObj 133 dQ) :: (dQ, dictOf (entsD w.params tQ vQ) 19) :: (kR, W.listOf ([] : List Value).toArray 0) :: (cR, W.listOf ([] : List Value).toArray 0) :: (xR, instObj 133 dR) :: (dR, dictOf (entsD w.params tR vR) 19) :: (cY, W.listOf ([Value.ref nY] : List Value).toArray 1) :: (nY, instObj 86 dnY) :: (dnY, dictOf (entsD w.params tnY vnY) 2) :: (qY, tupOf []) :: (dY, dictOf (entsD w.params tY vY) 19) :: (kX, W.listOf ([Value.ref xY] : List Value).toArray 1) :: (dX, dictOf (entsD w.params tX vX) 19) :: (kL, W.listOf ([Value.ref xX] : List Value).toArray 1) :: (tp, tupOf [.ref xX, .ref xY]) :: (kY, W.listOf ([] : List Value).toArray 0) :: (xY, instObj 133 dY) :: (cX, W.listOf ([] : List Value).toArray 0) :: (xX, instObj 133 dX) :: (ll, W.listOf ([Value.ref xL] : List Value).toArray 1) :: (cL, W.listOf ([] : List Value).toArray 0) :: (xL, instObj 133 dL) :: (dL, dictOf (entsD w.params tL vL) 19) :: (cW, W.listOf ([Value.ref nW] : List Value).toArray 1) :: (nW, instObj 86 dnW) :: (dnW, dictOf (entsD w.params tnW vnW) 2) :: (qW, tupOf []) :: (wl, W.listOf ([Value.ref xW] : List Value).toArray 1) :: (kW, W.listOf ([] : List Value).toArray 0) :: (xW, instObj 133 dW) :: (dW, dictOf (entsD w.params tW vW) 19) :: (x, instObj 159 dx) :: (dx, dictOf (entsD w.params tf vs) 6) :: R) := Λ₂₈.pulls [38]
  refine app_l (s := { s₂₈ with toks := _ }) (its := []) F₂₈ Λ₂₈ (by show _ ≤ 10000; decide) fun s₂₉ e₂₉ F₂₉ Λ₂₉ => ?_
  have Λ₂₉ : Led g L' s₂₉.heap ((xY, instObj 133 dY) :: (sl, W.listOf ([Value.str (Str.ofString "F") (s₂₈.toks + 1)] : List Value).toArray 1) :: (cQ, W.listOf ([Value.ref nQ] : List Value).toArray 1) :: (nQ, instObj 86 dnQ) :: (dnQ, dictOf (entsD w.params tnQ vnQ) 2) :: (qQ, tupOf []) :: (fd, od) :: (fl, W.listOf ([Value.ref xR, Value.ref xQ] : List Value).toArray 0) :: (kQ, W.listOf ([] : List Value).toArray 0) :: (xQ, instObj 133 dQ) :: (dQ, dictOf (entsD w.params tQ vQ) 19) :: (kR, W.listOf ([] : List Value).toArray 0) :: (cR, W.listOf ([] : List Value).toArray 0) :: (xR, instObj 133 dR) :: (dR, dictOf (entsD w.params tR vR) 19) :: (cY, W.listOf ([Value.ref nY] : List Value).toArray 1) :: (nY, instObj 86 dnY) :: (dnY, dictOf (entsD w.params tnY vnY) 2) :: (qY, tupOf []) :: (dY, dictOf (entsD w.params tY vY) 19) :: (kX, W.listOf ([Value.ref xY] : List Value).toArray 1) :: (dX, dictOf (entsD w.params tX vX) 19) :: (kL, W.listOf ([Value.ref xX] : List Value).toArray 1) :: (tp, tupOf [.ref xX, .ref xY]) :: (kY, W.listOf ([] : List Value).toArray 0) :: (cX, W.listOf ([] : List Value).toArray 0) :: (xX, instObj 133 dX) :: (ll, W.listOf ([Value.ref xL] : List Value).toArray 1) :: (cL, W.listOf ([] : List Value).toArray 0) :: (xL, instObj 133 dL) :: (dL, dictOf (entsD w.params tL vL) 19) :: (cW, W.listOf ([Value.ref nW] : List Value).toArray 1) :: (nW, instObj 86 dnW) :: (dnW, dictOf (entsD w.params tnW vnW) 2) :: (qW, tupOf []) :: (wl, W.listOf ([Value.ref xW] : List Value).toArray 1) :: (kW, W.listOf ([] : List Value).toArray 0) :: (xW, instObj 133 dW) :: (dW, dictOf (entsD w.params tW vW) 19) :: (x, instObj 159 dx) :: (dx, dictOf (entsD w.params tf vs) 6) :: R) := Λ₂₉.pulls [24]
  have hn1 : xL ≠ xY := Λ₂₉.ne _ (.tail _ (.tail _ (.tail _ (.tail _ (.tail _ (.tail _ (.tail _ (.tail _ (.tail _ (.tail _ (.tail _ (.tail _ (.tail _ (.tail _ (.tail _ (.tail _ (.tail _ (.tail _ (.tail _ (.tail _ (.tail _ (.tail _ (.tail _ (.tail _ (.tail _ (.tail _ (.tail _ (.tail _ (.head _)))))))))))))))))))))))))))))
  have hn2 : xX ≠ xY := Λ₂₉.ne _ (.tail _ (.tail _ (.tail _ (.tail _ (.tail _ (.tail _ (.tail _ (.tail _ (.tail _ (.tail _ (.tail _ (.tail _ (.tail _ (.tail _ (.tail _ (.tail _ (.tail _ (.tail _ (.tail _ (.tail _ (.tail _ (.tail _ (.tail _ (.tail _ (.tail _ (.head _))))))))))))))))))))))))))
  obtain ⟨T, mkW, mcW, mxW, mdW, mnW, mdnW, mkL, mcL, mxL, mdL, mkX, mcX, mxX, mdX, mkY, mcY, mxY, mdY, mnY, mdnY, mkR, mcR, mxR, mdR, mkQ, mcQ, mxQ, mdQ, mnQ, mdnQ, mfl, mfd, msl, mwl, mll, mx, mdx, Λ⟩ : ∃ T : List (Addr × Obj), (kW, W.listOf ([] : List Value).toArray 0) ∈ T ∧ (cW, W.listOf ([Value.ref nW] : List Value).toArray 1) ∈ T ∧ (xW, instObj 133 dW) ∈ T ∧ (dW, dictOf (entsD w.params tW vW) 19) ∈ T ∧ (nW, instObj 86 dnW) ∈ T ∧ (dnW, dictOf (entsD w.params tnW vnW) 2) ∈ T ∧ (kL, W.listOf ([Value.ref xX] : List Value).toArray 1) ∈ T ∧ (cL, W.listOf ([] : List Value).toArray 0) ∈ T ∧ (xL, instObj 133 dL) ∈ T ∧ (dL, dictOf (entsD w.params tL vL) 19) ∈ T ∧ (kX, W.listOf ([Value.ref xY] : List Value).toArray 1) ∈ T ∧ (cX, W.listOf ([] : List Value).toArray 0) ∈ T ∧ (xX, instObj 133 dX) ∈ T ∧ (dX, dictOf (entsD w.params tX vX) 19) ∈ T ∧ (kY, W.listOf ([] : List Value).toArray 0) ∈ T ∧ (cY, W.listOf ([Value.ref nY] : List Value).toArray 1) ∈ T ∧ (xY, instObj 133 dY) ∈ T ∧ (dY, dictOf (entsD w.params tY vY) 19) ∈ T ∧ (nY, instObj 86 dnY) ∈ T ∧ (dnY, dictOf (entsD w.params tnY vnY) 2) ∈ T ∧ (kR, W.listOf ([] : List Value).toArray 0) ∈ T ∧ (cR, W.listOf ([] : List Value).toArray 0) ∈ T ∧ (xR, instObj 133 dR) ∈ T ∧ (dR, dictOf (entsD w.params tR vR) 19) ∈ T ∧ (kQ, W.listOf ([] : List Value).toArray 0) ∈ T ∧ (cQ, W.listOf ([Value.ref nQ] : List Value).toArray 1) ∈ T ∧ (xQ, instObj 133 dQ) ∈ T ∧ (dQ, dictOf (entsD w.params tQ vQ) 19) ∈ T ∧ (nQ, instObj 86 dnQ) ∈ T ∧ (dnQ, dictOf (entsD w.params tnQ vnQ) 2) ∈ T ∧ (fl, W.listOf ([Value.ref xR, Value.ref xQ] : List Value).toArray 0) ∈ T ∧ (fd, od) ∈ T ∧ (sl, W.listOf ([Value.str (Str.ofString "F") (s₂₈.toks + 1)] : List Value).toArray 1) ∈ T ∧ (wl, W.listOf ([Value.ref xW] : List Value).toArray 1) ∈ T ∧ (ll, W.listOf ([Value.ref xL] : List Value).toArray 1) ∈ T ∧ (x, instObj 159 dx) ∈ T ∧ (dx, dictOf (entsD w.params tf vs) 6) ∈ T ∧ Led g L' s₂₉.heap (T ++ R) := ⟨[(xY, instObj 133 dY), (sl, W.listOf ([Value.str (Str.ofString "F") (s₂₈.toks + 1)] : List Value).toArray 1), (cQ, W.listOf ([Value.ref nQ] : List Value).toArray 1), (nQ, instObj 86 dnQ), (dnQ, dictOf (entsD w.params tnQ vnQ) 2), (qQ, tupOf []), (fd, od), (fl, W.listOf ([Value.ref xR, Value.ref xQ] : List Value).toArray 0), (kQ, W.listOf ([] : List Value).toArray 0), (xQ, instObj 133 dQ), (dQ, dictOf (entsD w.params tQ vQ) 19), (kR, W.listOf ([] : List Value).toArray 0), (cR, W.listOf ([] : List Value).toArray 0), (xR, instObj 133 dR), (dR, dictOf (entsD w.params tR vR) 19), (cY, W.listOf ([Value.ref nY] : List Value).toArray 1), (nY, instObj 86 dnY), (dnY, dictOf (entsD w.params tnY vnY) 2), (qY, tupOf []), (dY, dictOf (entsD w.params tY vY) 19), (kX, W.listOf ([Value.ref xY] : List Value).toArray 1), (dX, dictOf (entsD w.params tX vX) 19), (kL, W.listOf ([Value.ref xX] : List Value).toArray 1), (tp, tupOf [.ref xX, .ref xY]), (kY, W.listOf ([] : List Value).toArray 0), (cX, W.listOf ([] : List Value).toArray 0), (xX, instObj 133 dX), (ll, W.listOf ([Value.ref xL] : List Value).toArray 1), (cL, W.listOf ([] : List Value).toArray 0), (xL, instObj 133 dL), (dL, dictOf (entsD w.params tL vL) 19), (cW, W.listOf ([Value.ref nW] : List Value).toArray 1), (nW, instObj 86 dnW), (dnW, dictOf (entsD w.params tnW vnW) 2), (qW, tupOf []), (wl, W.listOf ([Value.ref xW] : List Value).toArray 1), (kW, W.listOf ([] : List Value).toArray 0), (xW, instObj 133 dW), (dW, dictOf (entsD w.params tW vW) 19), (x, instObj 159 dx), (dx, dictOf (entsD w.params tf vs) 6)], .tail _ (.tail _ (.tail _ (.tail _ (.tail _ (.tail _ (.tail _ (.tail _ (.tail _ (.tail _ (.tail _ (.tail _ (.tail _ (.tail _ (.tail _ (.tail _ (.tail _ (.tail _ (.tail _ (.tail _ (.tail _ (.tail _ (.tail _ (.tail _ (.tail _ (.tail _ (.tail _ (.tail _ (.tail _ (.tail _ (.tail _ (.tail _ (.tail _ (.tail _ (.tail _ (.tail _ (.head _)))))))))))))))))))))))))))))))))))), .tail _ (.tail _ (.tail _ (.tail _ (.tail _ (.tail _ (.tail _ (.tail _ (.tail _ (.tail _ (.tail _ (.tail _ (.tail _ (.tail _ (.tail _ (.tail _ (.tail _ (.tail _ (.tail _ (.tail _ (.tail _ (.tail _ (.tail _ (.tail _ (.tail _ (.tail _ (.tail _ (.tail _ (.tail _ (.tail _ (.tail _ (.head _))))))))))))))))))))))))))))))), .tail _ (.tail _ (.tail _ (.tail _ (.tail _ (.tail _ (.tail _ (.tail _ (.tail _ (.tail _ (.tail _ (.tail _ (.tail _ (.tail _ (.tail _ (.tail _ (.tail _ (.tail _ (.tail _ (.tail _ (.tail _ (.tail _ (.tail _ (.tail _ (.tail _ (.tail _ (.tail _ (.tail _ (.tail _ (.tail _ (.tail _ (.tail _ (.tail _ (.tail _ (.tail _ (.tail _ (.tail _ (.head _))))))))))))))))))))))))))))))))))))), .tail _ (.tail _ (.tail _ (.tail _ (.tail _ (.tail _ (.tail _ (.tail _ (.tail _ (.tail _ (.tail _ (.tail _ (.tail _ (.tail _ (.tail _ (.tail _ (.tail _ (.tail _ (.tail _ (.tail _ (.tail _ (.tail _ (.tail _ (.tail _ (.tail _ (.tail _ (.tail _ (.tail _ (.tail _ (.tail _ (.tail _ (.tail _ (.tail _ (.tail _ (.tail _ (.tail _ (.tail _ (.tail _ (.head _)))))))))))))))))))))))))))))))))))))), .tail _ (.tail _ (.tail _ (.tail _ (.tail _ (.tail _ (.tail _ (.tail _ (.tail _ (.tail _ (.tail _ (.tail _ (.tail _ (.tail _ (.tail _ (.tail _ (.tail _ (.tail _ (.tail _ (.tail _ (.tail _ (.tail _ (.tail _ (.tail _ (.tail _ (.tail _ (.tail _ (.tail _ (.tail _ (.tail _ (.tail _ (.tail _ (.head _)))))))))))))))))))))))))))))))), .tail _ (.tail _ (.tail _ (.tail _ (.tail _ (.tail _ (.tail _ (.tail _ (.tail _ (.tail _ (.tail _ (.tail _ (.tail _ (.tail _ (.tail _ (.tail _ (.tail _ (.tail _ (.tail _ (.tail _ (.tail _ (.tail _ (.tail _ (.tail _ (.tail _ (.tail _ (.tail _ (.tail _ (.tail _ (.tail _ (.tail _ (.tail _ (.tail _ (.head _))))))))))))))))))))))))))))))))), .tail _ (.tail _ (.tail _ (.tail _ (.tail _ (.tail _ (.tail _ (.tail _ (.tail _ (.tail _ (.tail _ (.tail _ (.tail _ (.tail _ (.tail _ (.tail _ (.tail _ (.tail _ (.tail _ (.tail _ (.tail _ (.tail _ (.head _)))))))))))))))))))))), .tail _ (.tail _ (.tail _ (.tail _ (.tail _ (.tail _ (.tail _ (.tail _ (.tail _ (.tail _ (.tail _ (.tail _ (.tail _ (.tail _ (.tail _ (.tail _ (.tail _ (.tail _ (.tail _ (.tail _ (.tail _ (.tail _ (.tail _ (.tail _ (.tail _ (.tail _ (.tail _ (.tail _ (.head _)))))))))))))))))))))))))))), .tail _ (.tail _ (.tail _ (.tail _ (.tail _ (.tail _ (.tail _ (.tail _ (.tail _ (.tail _ (.tail _ (.tail _ (.tail _ (.tail _ (.tail _ (.tail _ (.tail _ (.tail _ (.tail _ (.tail _ (.tail _ (.tail _ (.tail _ (.tail _ (.tail _ (.tail _ (.tail _ (.tail _ (.tail _ (.head _))))))))))))))))))))))))))))), .tail _ (.tail _ (.tail _ (.tail _ (.tail _ (.tail _ (.tail _ (.tail _ (.tail _ (.tail _ (.tail _ (.tail _ (.tail _ (.tail _ (.tail _ (.tail _ (.tail _ (.tail _ (.tail _ (.tail _ (.tail _ (.tail _ (.tail _ (.tail _ (.tail _ (.tail _ (.tail _ (.tail _ (.tail _ (.tail _ (.head _)))))))))))))))))))))))))))))), .tail _ (.tail _ (.tail _ (.tail _ (.tail _ (.tail _ (.tail _ (.tail _ (.tail _ (.tail _ (.tail _ (.tail _ (.tail _ (.tail _ (.tail _ (.tail _ (.tail _ (.tail _ (.tail _ (.tail _ (.head _)))))))))))))))))))), .tail _ (.tail _ (.tail _ (.tail _ (.tail _ (.tail _ (.tail _ (.tail _ (.tail _ (.tail _ (.tail _ (.tail _ (.tail _ (.tail _ (.tail _ (.tail _ (.tail _ (.tail _ (.tail _ (.tail _ (.tail _ (.tail _ (.tail _ (.tail _ (.tail _ (.head _))))))))))))))))))))))))), .tail _ (.tail _ (.tail _ (.tail _ (.tail _ (.tail _ (.tail _ (.tail _ (.tail _ (.tail _ (.tail _ (.tail _ (.tail _ (.tail _ (.tail _ (.tail _ (.tail _ (.tail _ (.tail _ (.tail _ (.tail _ (.tail _ (.tail _ (.tail _ (.tail _ (.tail _ (.head _)))))))))))))))))))))))))), .tail _ (.tail _ (.tail _ (.tail _ (.tail _ (.tail _ (.tail _ (.tail _ (.tail _ (.tail _ (.tail _ (.tail _ (.tail _ (.tail _ (.tail _ (.tail _ (.tail _ (.tail _ (.tail _ (.tail _ (.tail _ (.head _))))))))))))))))))))), .tail _ (.tail _ (.tail _ (.tail _ (.tail _ (.tail _ (.tail _ (.tail _ (.tail _ (.tail _ (.tail _ (.tail _ (.tail _ (.tail _ (.tail _ (.tail _ (.tail _ (.tail _ (.tail _ (.tail _ (.tail _ (.tail _ (.tail _ (.tail _ (.head _)))))))))))))))))))))))), .tail _ (.tail _ (.tail _ (.tail _ (.tail _ (.tail _ (.tail _ (.tail _ (.tail _ (.tail _ (.tail _ (.tail _ (.tail _ (.tail _ (.tail _ (.head _))))))))))))))), .head _, .tail _ (.tail _ (.tail _ (.tail _ (.tail _ (.tail _ (.tail _ (.tail _ (.tail _ (.tail _ (.tail _ (.tail _ (.tail _ (.tail _ (.tail _ (.tail _ (.tail _ (.tail _ (.tail _ (.head _))))))))))))))))))), .tail _ (.tail _ (.tail _ (.tail _ (.tail _ (.tail _ (.tail _ (.tail _ (.tail _ (.tail _ (.tail _ (.tail _ (.tail _ (.tail _ (.tail _ (.tail _ (.head _)))))))))))))))), .tail _ (.tail _ (.tail _ (.tail _ (.tail _ (.tail _ (.tail _ (.tail _ (.tail _ (.tail _ (.tail _ (.tail _ (.tail _ (.tail _ (.tail _ (.tail _ (.tail _ (.head _))))))))))))))))), .tail _ (.tail _ (.tail _ (.tail _ (.tail _ (.tail _ (.tail _ (.tail _ (.tail _ (.tail _ (.tail _ (.head _))))))))))), .tail _ (.tail _ (.tail _ (.tail _ (.tail _ (.tail _ (.tail _ (.tail _ (.tail _ (.tail _ (.tail _ (.tail _ (.head _)))))))))))), .tail _ (.tail _ (.tail _ (.tail _ (.tail _ (.tail _ (.tail _ (.tail _ (.tail _ (.tail _ (.tail _ (.tail _ (.tail _ (.head _))))))))))))), .tail _ (.tail _ (.tail _ (.tail _ (.tail _ (.tail _ (.tail _ (.tail _ (.tail _ (.tail _ (.tail _ (.tail _ (.tail _ (.tail _ (.head _)))))))))))))), .tail _ (.tail _ (.tail _ (.tail _ (.tail _ (.tail _ (.tail _ (.tail _ (.head _)))))))), .tail _ (.tail _ (.head _)), .tail _ (.tail _ (.tail _ (.tail _ (.tail _ (.tail _ (.tail _ (.tail _ (.tail _ (.head _))))))))), .tail _ (.tail _ (.tail _ (.tail _ (.tail _ (.tail _ (.tail _ (.tail _ (.tail _ (.tail _ (.head _)))))))))), .tail _ (.tail _ (.tail _ (.head _))), .tail _ (.tail _ (.tail _ (.tail _ (.head _)))), .tail _ (.tail _ (.tail _ (.tail _ (.tail _ (.tail _ (.tail _ (.head _))))))), .tail _ (.tail _ (.tail _ (.tail _ (.tail _ (.tail _ (.head _)))))), .tail _ (.head _), .tail _ (.tail _ (.tail _ (.tail _ (.tail _ (.tail _ (.tail _ (.tail _ (.tail _ (.tail _ (.tail _ (.tail _ (.tail _ (.tail _ (.tail _ (.tail _ (.tail _ (.tail _ (.tail _ (.tail _ (.tail _ (.tail _ (.tail _ (.tail _ (.tail _ (.tail _ (.tail _ (.tail _ (.tail _ (.tail _ (.tail _ (.tail _ (.tail _ (.tail _ (.tail _ (.head _))))))))))))))))))))))))))))))))))), .tail _ (.tail _ (.tail _ (.tail _ (.tail _ (.tail _ (.tail _ (.tail _ (.tail _ (.tail _ (.tail _ (.tail _ (.tail _ (.tail _ (.tail _ (.tail _ (.tail _ (.tail _ (.tail _ (.tail _ (.tail _ (.tail _ (.tail _ (.tail _ (.tail _ (.tail _ (.tail _ (.head _))))))))))))))))))))))))))), .tail _ (.tail _ (.tail _ (.tail _ (.tail _ (.tail _ (.tail _ (.tail _ (.tail _ (.tail _ (.tail _ (.tail _ (.tail _ (.tail _ (.tail _ (.tail _ (.tail _ (.tail _ (.tail _ (.tail _ (.tail _ (.tail _ (.tail _ (.tail _ (.tail _ (.tail _ (.tail _ (.tail _ (.tail _ (.tail _ (.tail _ (.tail _ (.tail _ (.tail _ (.tail _ (.tail _ (.tail _ (.tail _ (.tail _ (.head _))))))))))))))))))))))))))))))))))))))), .tail _ (.tail _ (.tail _ (.tail _ (.tail _ (.tail _ (.tail _ (.tail _ (.tail _ (.tail _ (.tail _ (.tail _ (.tail _ (.tail _ (.tail _ (.tail _ (.tail _ (.tail _ (.tail _ (.tail _ (.tail _ (.tail _ (.tail _ (.tail _ (.tail _ (.tail _ (.tail _ (.tail _ (.tail _ (.tail _ (.tail _ (.tail _ (.tail _ (.tail _ (.tail _ (.tail _ (.tail _ (.tail _ (.tail _ (.tail _ (.head _)))))))))))))))))))))))))))))))))))))))), Λ₂₉⟩
  have tW : TreeIn w.params WN T xW (Str.ofString "W") [Str.ofString "IN-WORK"] := tree_leaf mxW mdW IW mkW (cs := [nW]) mcW ⟨⟨dnW, vnW, tnW, mnW, mdnW, NW⟩, trivial⟩ (by decide) (by intro z hz; rw [List.mem_singleton.mp hz]; exact .head _)
  have tL : TreeIn w.params WN T xL (Str.ofString "L") [Str.ofString "DEEP"] := tree_chain (y := xX) (z := xY) ⟨dL, vL, tL, _, cL, kL, 1, 0, [], mxL, mdL, IL, mkL, mcL, trivial⟩ ⟨dX, vX, tX, _, cX, kX, 1, 0, [], mxX, mdX, IX, mkX, mcX, trivial⟩ ⟨dY, vY, tY, _, cY, kY, 0, 1, [nY], mxY, mdY, IY, mkY, mcY, ⟨dnY, vnY, tnY, mnY, mdnY, NY⟩, trivial⟩ hn1 hn2 ⟨dL, vL, tL, cL, kL, mxL, mdL, IL⟩ (by decide) (by intro z hz; rw [List.mem_singleton.mp hz]; exact .tail _ (.head _))
  have tR : TreeIn w.params WN T xR (Str.ofString "R") [] := tree_leaf mxR mdR IR mkR (cs := []) mcR trivial (by decide) (fun _ h => nomatch h)
  have tQ : TreeIn w.params WN T xQ (Str.ofString "Q") [Str.ofString "IN-FILE"] := tree_leaf mxQ mdQ IQ mkQ (cs := [nQ]) mcQ ⟨⟨dnQ, vnQ, tnQ, mnQ, mdnQ, NQ⟩, trivial⟩ (by decide) (by intro z hz; rw [List.mem_singleton.mp hz]; exact .tail _ (.tail _ (.head _)))
  have hFI : FilesIn w.params WN T [(Str.ofString "F", Value.ref fl)] [(Str.ofString "F", [(xR, Str.ofString "R", []), (xQ, Str.ofString "Q", [Str.ofString "IN-FILE"])])] := ⟨rfl, ⟨fl, 0, rfl, mfl, fun t ht => by rcases List.mem_cons.mp ht with rfl | ht; exact tR; rw [List.mem_singleton.mp ht]; exact tQ, by show 2 ≤ 2; decide⟩, trivial⟩
  have hX : DataX w WN T x [(Str.ofString "F", [(xR, Str.ofString "R", []), (xQ, Str.ofString "Q", [Str.ofString "IN-FILE"])])] [Str.ofString "F"] := ⟨dx, vs, tf, wl, ll, fd, sl, od, _, _, 1, mx, mdx, D, mfd, hod, lo, hFI, msl, .cons _ _ .nil, by show 1 ≤ 5; decide⟩
  have hI : DataIn w WN T x [(xW, Str.ofString "W", [Str.ofString "IN-WORK"])] [(xL, Str.ofString "L", [Str.ofString "DEEP"])] [(Str.ofString "F", [(xR, Str.ofString "R", []), (xQ, Str.ofString "Q", [Str.ofString "IN-FILE"])])] := ⟨dx, vs, tf, wl, ll, fd, sl, 1, 1, od, _, mx, mdx, D, mwl, mll, mfd, hod, lo, fun t ht => by rw [List.mem_singleton.mp ht]; exact tW, fun t ht => by rw [List.mem_singleton.mp ht]; exact tL, hFI, by show 1 ≤ 2; decide, by show 1 ≤ 2; decide, by show 1 ≤ 5; decide⟩
  clear mkW mcW mxW mdW mnW mdnW mkL mcL mxL mdL mkX mcX mxX mdX mkY mcY mxY mdY mnY mdnY mkR mcR mxR mdR mkQ mcQ mxQ mdQ mnQ mdnQ mfl mfd msl mwl mll mx mdx tW tL tR tQ hFI hn1 hn2 IW IL IX IY IR IQ NW NY NQ D lo hod
  have e₁ : Same s s₂₉ := e₁.trans (e₂.trans (e₃.trans (e₄.trans (e₅.trans (e₆.trans (e₇.trans (e₈.trans (e₉.trans (e₁₀.trans (e₁₁.trans (e₁₂.trans (e₁₃.trans (e₁₄.trans (e₁₅.trans (e₁₆.trans (e₁₇.trans (e₁₈.trans (e₁₉.trans (e₂₀.trans (e₂₁.trans (e₂₂.trans (e₂₃.trans (e₂₄.trans (e₂₅.trans (e₂₆.trans (e₂₇.trans (e₂₈.trans (e₂₉))))))))))))))))))))))))))))
  have F₁ := F₂₉
  -- _law_joined({'F': FileSpec('F')}, data)
  have hunits : A'.units + 64 < cLine := Γ₁.units64 (by omega)
  refine wpAny_execs_cons (wpAny_If (wpAny_isTrue_BoolOp (wpAny_allTrue_Or_cons (wpAny_isTrue_Compare1 (Γ₁.callK F₁ (.ref 238) (spliced_more (Γ₁.dictD F₁ Λ fun q1 oq s₁ e₂ F₂ Λ₂ lq hq => ?_)))))))
  refine pairTrees_cons_walk (wpAny_Constant_str (Γ₁.callK F₂ (.ref 213) (spliced_more (wpAny_Constant_str (spliced_none ⟨⟨_, F₂⟩, ?_⟩)))))
  refine Γ₁.file (s := { s₁ with toks := _ }) F₂ Λ₂ fun x1 d1 v1 t1 s₂ e₃ F₃ Λ₃ R1 => pairTrees_nil_walk ?_
  refine made_l (vs := [(.str (Str.ofString "F") _, .ref x1)]) F₃ (Λ₃.pulls [2]) hq (by simp [strPairs]) fun o1 s₃ e₄ F₄ Λ₄ h1 => ?_
  have h1 : IsD w o1 [(Str.ofString "F", Value.ref x1)] := h1
  refine spliced_more (Γ₁.lcl F₄ H₃.get (spliced_none ⟨⟨_, F₄⟩, ?_⟩))
  have Λ₅ : Led g L' s₃.heap (spE w.params [⟨Str.ofString "F", x1, d1, v1, t1⟩] ++ ((q1, o1) :: (x1, instObj 213 d1) :: (T ++ R))) := Λ₄.pulls [2]
  have hsub1 : ∀ p ∈ T, p ∈ (q1, o1) :: (x1, instObj 213 d1) :: (T ++ R) := fun p h => .tail _ (.tail _ (List.mem_append_left _ h))
  refine joined_c (sos := [Str.ofString "F"]) Γ₁ G₁ (by omega) F₄ Λ₅ (hX.mono hsub1) (.head _) h1 lq (fun sp h => by rw [List.mem_singleton.mp h]; exact ⟨.tail _ (.head _), R1⟩) (by show 1 ≤ 5; decide) (fun k hk => by rw [List.mem_singleton.mp hk]; show (Str.ofString "F").length ≤ 100; decide +kernel) (fun k hk => by rw [List.mem_singleton.mp hk]; show (Str.ofString "F").length ≤ 100; decide +kernel) (fun _ B vals n ss Rn s₄ g₁ e₅ T₁ Γ₂ G₂ F₅ Λ₆ hp hso hrows => ?_) fun h => absurd (fun k => Iff.rfl) h
  clear Γ₁ G₁ F₁ F₂ F₃ F₄ Λ Λ₂ Λ₃ Λ₄ Λ₅
  obtain rfl : ss = [Str.ofString "F"] := List.perm_singleton.mp hp
  -- [('F', ('R', 'Q'), True)]
  refine List_ (spliced_more (Tuple_ (spliced_more (wpAny_Constant_str (spliced_more (Tuple_ (spliced_more (wpAny_Constant_str (spliced_more (wpAny_Constant_str (spliced_none (newTup_l (s := { s₄ with toks := _ }) F₅ Λ₆ (by show 2 ≤ 1000; decide) fun y1 s₅ e₆ F₆ Λ₇ _ => ?_))))))))))))
  refine spliced_more (wpAny_Constant_bool (spliced_none (newTup_l F₆ Λ₇ (by show 3 ≤ 1000; decide) fun y2 s₆ e₇ F₇ Λ₈ _ => ?_)))
  refine spliced_none (newList_l F₇ Λ₈ (by show 1 ≤ 1000; decide) fun y3 s₇ e₈ F₈ Λ₉ _ => ?_)
  refine ne_rows (rs := [Str.ofString "F"].map (rowOf _ _)) Λ₉ (.tail _ (.tail _ (.tail _ (.head _)))) (.head _) (hrows.mono fun p h => .tail _ (.tail _ (.tail _ (.tail _ (List.mem_append_left _ h))))) ⟨⟨y2, _, y1, _, rfl, .tail _ (.head _), .tail _ (.tail _ (.head _)), .cons _ _ (.cons _ _ .nil)⟩, trivial⟩ (fun r hr => by rw [List.mem_singleton.mp hr]; show rowOk (Str.ofString "F", [Str.ofString "R", Str.ofString "Q"], true) = true; decide +kernel) hunits (wpAny_truthy_bool ?_)
  rw [if_neg (by decide)]
  obtain ⟨T1, hs1, Λ⟩ : ∃ T1, (∀ p ∈ T, p ∈ T1) ∧ Led g₁ L' s₇.heap (T1 ++ R) := ⟨_ :: _ :: _ :: _ :: (Rn ++ (_ :: _ :: T)), fun p h => .tail _ (.tail _ (.tail _ (.tail _ (List.mem_append_right _ (.tail _ (.tail _ h)))))), by rw [List.cons_append, List.cons_append, List.cons_append, List.cons_append, List.append_assoc]; exact Λ₉⟩
  have hX := hX.mono hs1
  have hI := hI.mono hs1
  have e₁ : Same s s₇ := e₁.trans (e₂.trans (e₃.trans (e₄.trans (e₅.trans (e₆.trans (e₇.trans e₈))))))
  have F₁ := F₈
  clear hrows hp hso Λ₆ Λ₇ Λ₈ Λ₉ F₅ F₆ F₇ F₈ e₂ e₃ e₄ e₅ e₆ e₇ e₈ hsub1 R1 h1 hs1 hq lq
  -- _law_joined({}, data)
  refine wpAny_allTrue_Or_cons (wpAny_isTrue_Compare1 (Γ₂.callK F₁ (.ref 238) (spliced_more (newDict_l Γ₂ F₁ Λ fun q2 o2 s₁ e₂ F₂ Λ₂ _ h2 l2 => ?_))))
  refine spliced_more (Γ₂.lcl F₂ H₃.get (spliced_none ⟨⟨_, F₂⟩, ?_⟩))
  refine joined_c (sps := []) (sos := [Str.ofString "F"]) (R := (q2, o2) :: (T1 ++ R)) Γ₂ G₂ (by omega) F₂ Λ₂ (hX.mono fun p h => .tail _ (List.mem_append_left _ h)) (.head _) h2 l2 (fun _ h => nomatch h) (by decide) (fun k hk => by rw [List.mem_singleton.mp hk]; show (Str.ofString "F").length ≤ 100; decide +kernel) (fun _ h => nomatch h) (fun h => nomatch (h (Str.ofString "F")).mpr (.head _)) fun _ Rn s₂ g₂ e₃ T₂ Γ₃ G₃ F₃ Λ₃ => ?_
  refine wpAny_Constant_none (wpAny_isNot_self rfl (wpAny_truthy_bool ?_))
  rw [if_neg (by decide)]
  refine wpAny_allTrue_Or_nil ?_
  rw [if_neg (by decide)]
  refine wpAny_execs_nil ?_
  obtain ⟨T2, hs2, Λ⟩ : ∃ T2, (∀ p ∈ T1, p ∈ T2) ∧ Led g₂ L' s₂.heap (T2 ++ R) := ⟨Rn ++ (_ :: T1), fun p h => List.mem_append_right _ (.tail _ h), by rw [List.append_assoc]; exact Λ₃⟩
  have hX := hX.mono hs2
  have hI := hI.mono hs2
  have T₂ := T₁.trans T₂
  have e₁ : Same s s₂ := e₁.trans (e₂.trans e₃)
  have F₁ := F₃
  clear Γ₂ G₂ F₂ F₃ Λ₂ Λ₃ e₂ e₃ h2 l2 hs2
  -- _law_joined({'F': FileSpec('F'), 'G': FileSpec('G')}, data)
  refine wpAny_execs_cons (wpAny_If (wpAny_isTrue_Compare1 (Γ₃.callK F₁ (.ref 238) (spliced_more (Γ₃.dictD F₁ Λ fun q1 oq s₁ e₂ F₂ Λ₂ lq hq => ?_)))))
  refine pairTrees_cons_walk (wpAny_Constant_str (Γ₃.callK F₂ (.ref 213) (spliced_more (wpAny_Constant_str (spliced_none ⟨⟨_, F₂⟩, ?_⟩)))))
  refine Γ₃.file (s := { s₁ with toks := _ }) F₂ Λ₂ fun x1 d1 v1 t1 s₂ e₃ F₃ Λ₃ R1 => ?_
  refine pairTrees_cons_walk (wpAny_Constant_str (Γ₃.callK F₃ (.ref 213) (spliced_more (wpAny_Constant_str (spliced_none ⟨⟨_, F₃⟩, ?_⟩)))))
  refine Γ₃.file (s := { s₂ with toks := _ }) F₃ Λ₃ fun x2 d2 v2 t2 s₃ e₄ F₄ Λ₄ R2 => pairTrees_nil_walk ?_
  refine made_l (vs := [(.str (Str.ofString "F") _, .ref x1), (.str (Str.ofString "G") _, .ref x2)]) F₄ (Λ₄.pulls [4]) hq (by show [Str.ofString "F", Str.ofString "G"].Nodup; decide +kernel) fun o1 s₄ e₅ F₅ Λ₅ h1 => ?_
  have h1 : IsD w o1 [(Str.ofString "F", Value.ref x1), (Str.ofString "G", Value.ref x2)] := h1
  refine spliced_more (Γ₃.lcl F₅ H₃.get (spliced_none ⟨⟨_, F₅⟩, ?_⟩))
  have Λ₆ : Led g₂ L' s₄.heap (spE w.params [⟨Str.ofString "F", x1, d1, v1, t1⟩, ⟨Str.ofString "G", x2, d2, v2, t2⟩] ++ ((q1, o1) :: (x2, instObj 213 d2) :: (x1, instObj 213 d1) :: (T2 ++ R))) := Λ₅.pulls [2, 4]
  refine joined_c (sos := [Str.ofString "F"]) Γ₃ G₃ (by omega) F₅ Λ₆ (hX.mono fun p h => .tail _ (.tail _ (.tail _ (List.mem_append_left _ h)))) (.head _) h1 lq (fun sp h => ?_) (by show 2 ≤ 5; decide) (fun k hk => by rw [List.mem_singleton.mp hk]; show (Str.ofString "F").length ≤ 100; decide +kernel) (fun k hk => ?_) (fun h => absurd ((h (Str.ofString "G")).mp (.tail _ (.head _))) (by show ¬ Str.ofString "G" ∈ [Str.ofString "F"]; decide +kernel)) fun _ Rn s₅ g₃ e₆ T₃ Γ₄ G₄ F₆ Λ₇ => ?_
  · rcases List.mem_cons.mp h with rfl | h
    · exact ⟨.tail _ (.tail _ (.head _)), R1⟩
    · rw [List.mem_singleton.mp h]; exact ⟨.tail _ (.head _), R2⟩
  · rcases List.mem_cons.mp hk with rfl | hk
    · show (Str.ofString "F").length ≤ 100; decide +kernel
    · rw [List.mem_singleton.mp hk]; show (Str.ofString "G").length ≤ 100; decide +kernel
  refine wpAny_Constant_none (wpAny_isNot_self rfl (wpAny_truthy_bool ?_))
  rw [if_neg (by decide)]
  refine wpAny_execs_nil ?_
  obtain ⟨T3, hs3, Λ⟩ : ∃ T3, (∀ p ∈ T2, p ∈ T3) ∧ Led g₃ L' s₅.heap (T3 ++ R) := ⟨Rn ++ (_ :: _ :: _ :: T2), fun p h => List.mem_append_right _ (.tail _ (.tail _ (.tail _ h))), by rw [List.append_assoc]; exact Λ₇⟩
  have hI := hI.mono hs3
  have T₃ := T₂.trans T₃
  have e₁ : Same s s₅ := e₁.trans (e₂.trans (e₃.trans (e₄.trans (e₅.trans e₆))))
  have F₁ := F₆
  clear Γ₃ G₃ F₂ F₃ F₄ F₅ F₆ Λ₂ Λ₃ Λ₄ Λ₅ Λ₆ Λ₇ e₂ e₃ e₄ e₅ e₆ h1 lq hs3 hq R1 R2 hX
  -- return condition_names(data) == {..} and condition_names(Data()) == {}
  refine wpAny_execs_cons (wpAny_Return_some (wpAny_And2 (wpAny_Compare1 (Γ₄.callK F₁ (.ref 184) (spliced_more (Γ₄.lcl F₁ H₃.get (spliced_none ⟨⟨_, F₁⟩, ?_⟩)))))))
  refine cond_c Γ₄ (by omega) F₁ Λ (by decide) (hI.mono fun p h => List.mem_append_left _ h) fun D1 oD kvs Rn s₁ e₂ F₂ Λ₂ hD lD hv hm _ _ => ?_
  refine Γ₄.dictD F₂ Λ₂ fun q1 oq s₂ e₃ F₃ Λ₃ lq hq => ?_
  refine pairTrees_cons_walk (wpAny_Constant_str (wpAny_Constant_bool ?_))
  refine pairTrees_cons_walk (wpAny_Constant_str (wpAny_Constant_bool ?_))
  refine pairTrees_cons_walk (wpAny_Constant_str (wpAny_Constant_bool (pairTrees_nil_walk ?_)))
  refine made_l (s := { s₂ with toks := _ }) (vs := [(.str (Str.ofString "IN-WORK") _, .bool true), (.str (Str.ofString "DEEP") _, .bool true), (.str (Str.ofString "IN-FILE") _, .bool true)]) F₃ Λ₃ hq (by show WN.Nodup; decide +kernel) fun o1 s₃ e₄ F₄ Λ₄ h1 => ?_
  have h1 : IsD w o1 [(Str.ofString "IN-WORK", Value.bool true), (Str.ofString "DEEP", Value.bool true), (Str.ofString "IN-FILE", Value.bool true)] := h1
  refine eq_dicts Λ₄ (.tail _ (.head _)) (.head _) hD h1 lD lq hv (fun q h => by simp only [List.mem_cons, List.not_mem_nil, or_false] at h; rcases h with rfl | rfl | rfl <;> rfl) (fun z => ?_) (Γ₄.units (by omega)) (wpAny_truthy_bool ?_)
  · rw [hm]
    simp
  rw [if_pos (by decide)]
  refine wpAny_Compare1 (Γ₄.callK F₄ (.ref 184) (spliced_more (Γ₄.callK0 F₄ (.ref 159) ?_)))
  refine Γ₄.data F₄ Λ₄ fun x2 dx2 wl2 ll2 fd2 sl2 vs2 tf2 s₄ e₅ F₅ Λ₅ DR lo2 => spliced_none ⟨⟨_, F₅⟩, ?_⟩
  have hI2 : DataIn w WN ((sl2, W.listOf #[] 0) :: (fd2, dictOf [] 0) :: (ll2, W.listOf #[] 0) :: (wl2, W.listOf #[] 0) :: (x2, instObj 159 dx2) :: (dx2, dictOf (entsD w.params tf2 vs2) 6) :: (q1, o1) :: (D1, oD) :: (Rn ++ (T3 ++ R))) x2 [] [] [] :=
    ⟨dx2, vs2, tf2, wl2, ll2, fd2, sl2, 0, 0, dictOf [] 0, [], .tail _ (.tail _ (.tail _ (.tail _ (.head _)))), .tail _ (.tail _ (.tail _ (.tail _ (.tail _ (.head _))))), DR, .tail _ (.tail _ (.tail _ (.head _))), .tail _ (.tail _ (.head _)), .tail _ (.head _), isD_nil, lo2, (fun _ h => nomatch h), (fun _ h => nomatch h), trivial, Nat.zero_le _, Nat.zero_le _, Nat.zero_le _⟩
  refine cond_c Γ₄ (by omega) F₅ Λ₅ (by decide) hI2 fun D2 oD2 kvs2 Rn2 s₅ e₆ F₆ Λ₆ hD2 lD2 hv2 hm2 _ _ => ?_
  refine newDict_l Γ₄ F₆ Λ₆ fun q3 o3 s₆ e₇ F₇ Λ₇ _ h3 l3 => ?_
  refine eq_dicts Λ₇ (.tail _ (.head _)) (.head _) hD2 h3 lD2 l3 hv2 (fun _ h => nomatch h) (fun z => ?_) (Γ₄.units (by omega)) ?_
  · rw [hm2]
    simp
  obtain ⟨T4, Λ⟩ : ∃ T4, Led g₃ L' s₆.heap (T4 ++ R) := ⟨_ :: _ :: (Rn2 ++ (_ :: _ :: _ :: _ :: _ :: _ :: _ :: _ :: (Rn ++ T3))), by rw [List.cons_append, List.cons_append, List.append_assoc, List.cons_append, List.cons_append, List.cons_append, List.cons_append, List.cons_append, List.cons_append, List.cons_append, List.cons_append, List.append_assoc]; exact Λ₇⟩
  show Q' _ _
  exact fin (.ret (.bool true)) (.bool true) _ _ _ g₃ (.inl rfl) T₃ F₇ Λ fun h₀' T' Γ' G' F' Λ' => ret _ _ h₀' (e₁.trans (e₂.trans (e₃.trans (e₄.trans (e₅.trans (e₆.trans e₇)))))) T' Γ' G' F' Λ'
end
end Mine
end
section
open PySem PySem.W PySem.Calls PyProof.Rows
namespace Mine
def lawScope : Scope := scopeOf (topStmt 23)
/-- the names of files -/
def FILES : List Str := [Str.ofString "A", Str.ofString "B-FILE", Str.ofString "C2", Str.ofString "D", Str.ofString "E-E"]
section
variable {w : World} {d : Nat} {cs : Scope} {cl : List (Str × Addr)} {A : Around} {env : Env} {L : Addr} {h₀ : Heap} {m : Str → Option Value} {R l : List (Addr × Obj)} {s : Shared} {E : Value → Shared → Prop}
theorem Fn.loc (Γ : Fn w d cs cl A env L h₀) : env.locals = L := by
  obtain ⟨_, _, _, _, _, _, _, _, rfl, _⟩ := Γ
  rfl
/-- for x in <a list of the ledger by its name>: .., x a cell -/
theorem Fn.forC {Q : Flow → Shared → Prop} {x y : Str} {px p pos : Pos} {body : List Stmt} {D : Addr} {vs : List Value} {n : Nat} (Γ : Fn w d cs cl A env L h₀) (F : Fr h₀ L s.heap m) (Λ : Led h₀ L s.heap l) (hv : m y = some (.ref D)) (hD : (D, W.listOf vs.toArray n) ∈ l)
    (J : Nat → (Str → Option Value) → List (Addr × Obj) → Prop) (j0 : J 0 m l)
    (turn : ∀ i v m₁ l₁ s₁ I o, i < vs.length → vs[i]? = some v → J i m₁ l₁ → (D, W.listOf vs.toArray n) ∈ l₁ → Fr h₀ L s₁.heap m₁ → Led h₀ L s₁.heap ((I, o) :: l₁) →
      wpAny (model PG w) A (storeName env x v) (fun _ s₃ => wpAny (model PG w) A (execs body env) (TurnOk h₀ L I o [(D, W.listOf vs.toArray n)] (J (i + 1)) s₁) E s₃) E s₁)
    (fin : ∀ s₁ m' l', J vs.length m' l' → Same s s₁ → Fr h₀ L s₁.heap m' → Led h₀ L s₁.heap l' → Q .next s₁)
    (hE : PassesOwn (model PG w) A env E) (hy : nok cs .local y = true := by kernel_rfl) :
    wpAny (model PG w) A (exec (.For (.Name x px) (.Name y p) body [] pos) env) Q E s := by
  have mh := Γ.handled
  have hL := Γ.loc
  refine For_invT h₀ (Γ.lcl F hv ?_ hy) (by intro _; rfl) hE
  have hl : s.heap.IsList D vs.toArray := ⟨_, Λ.get hD, rfl, _, rfl⟩
  refine wpAny_pyIter_list hl ?_
  have hlt : ∀ p ∈ l, p.1 < s.heap.objs.size := fun p hp => Heap.lt_size (Λ.N p hp).1
  have W' := Walks.list (prog := PG) (w := w) mh s.heap.objs.size D (Nat.ne_of_lt (hlt _ hD)) vs.toArray
  have e1 : vs.toArray.size = vs.length := by simp
  have e2 : (fun (i : Nat) v => vs.toArray[i]? = some v) = fun i v => vs[i]? = some v := by funext i v; simp
  rw [e1, e2] at W'
  have hIL : s.heap.objs.size ≠ L := fun e => absurd F.ns.lt (e ▸ Nat.lt_irrefl _)
  have hI := next_is_new F
  have hDI : D ≠ s.heap.objs.size := Nat.ne_of_lt (hlt _ hD)
  subst hL
  generalize hII : s.heap.objs.size = I at W' hIL hI hDI
  refine ⟨I, [I, D], [I], vs.length, _, _, m, l, fun i m₁ l₁ => J i m₁ l₁ ∧ (l₁.map (·.1)).Nodup ∧ (D, W.listOf vs.toArray n) ∈ l₁, rfl, W', ?_, ?_, ?_, ?_, F.push _, fun p hp => ⟨Heap.get?_push_of_some _ (Λ.N p hp).1, (Λ.N p hp).2⟩, fun i s' v Q' st hQ' => letGo_listiter st.1 hQ', ⟨j0, Λ.D, hD⟩, ?_, ?_⟩
  · intro hm
    rcases List.mem_cons.mp hm with e | hm
    · exact hIL e.symm
    · exact (Λ.N _ hD).2.1 (List.mem_singleton.mp hm).symm
  · intro b hb; rw [List.mem_singleton.mp hb]; exact hI
  · intro p hp hb; exact absurd (hlt p hp) (by rw [List.mem_singleton.mp hb, hII]; exact Nat.lt_irrefl _)
  · exact ⟨⟨_, by rw [← hII]; exact Heap.get?_push_size _ rfl, rfl, rfl⟩, hl.at fun o e => Heap.get?_push_of_some _ e⟩
  · rintro i v m₁ l₁ s₁ own hi hP ⟨hJ, hnd, hx₁⟩ hoff hown hget hall hst' F₁ N₁
    obtain ⟨o, ho⟩ : ∃ o, s₁.heap.get? I = some o := let ⟨⟨o, ho, _⟩, _⟩ := hst'; ⟨o, ho⟩
    have hio : (I, o) ∈ own := hall I (.head _) hI o ho
    have Λ₁ : Led h₀ env.locals s₁.heap ((I, o) :: l₁) := ⟨fun q hq => by
      rcases List.mem_cons.mp hq with rfl | hq
      · exact N₁ _ (List.mem_append_left _ hio)
      · exact N₁ _ (List.mem_append_right _ hq), by
      rw [List.map_cons, List.nodup_cons]
      refine ⟨fun hm => ?_, hnd⟩
      obtain ⟨q, hq, e⟩ := List.mem_map.mp hm
      exact hoff q hq (List.mem_singleton.mpr e)⟩
    refine wpAny_assign_Name (wpAny_mono (turn i v m₁ l₁ s₁ I o hi hP hJ hx₁ F₁ Λ₁) (fun _ s₂ h₂ => wpAny_mono h₂ (fun f s₃ h₃ => ?_) fun _ _ e => e) fun _ _ e => e)
    obtain ⟨rfl, m', l', e₃, F', Λ', hx', hJ'⟩ := h₃
    refine ⟨rfl, s₃.heap, s₃.toks, m', l', e₃.eq, F', fun p hp => ?_, fun p hp hb => Λ'.ne p hp (List.mem_singleton.mp hb), hJ', Λ'.tail.D, hx' _ (.head _)⟩
    rcases List.mem_append.mp hp with hp | hp
    · rcases List.mem_cons.mp (hown p hp) with e | hm
      · have e2 : p.2 = o := by have := hget p hp; rw [e, ho] at this; exact (Option.some.inj this).symm
        have : p = (I, o) := Prod.ext e e2
        rw [this]; exact Λ'.N _ (.head _)
      · have e := List.mem_singleton.mp hm
        have h3 := (N₁ _ (List.mem_append_right _ hx₁)).1
        have e2 : p.2 = W.listOf vs.toArray n := by have := hget p hp; rw [e] at this; exact Option.some.inj (this.symm.trans h3)
        have : p = (D, W.listOf vs.toArray n) := Prod.ext e e2
        rw [this]; exact Λ'.N _ (.tail _ (hx' _ (.head _)))
    · exact Λ'.N p (.tail _ hp)
  · rintro h' tk m' l' F' N' _ ⟨hJ, hnd, hx⟩
    exact fin _ m' l' hJ ⟨rfl, rfl, rfl⟩ F' ⟨N', hnd⟩
/-- take(e), take a cell -/
theorem Fn.takeC {Q : Value → Shared → Prop} {x : Str} {p p2 p4 : Pos} {kd : Nat} {tk pl c : Addr} {o : Obj} {ns : List Int} {k lim : Int} {t : Tok} (Γ : Fn w d cs cl A env L h₀) (F : Fr h₀ L s.heap m) (hc : cl.lookup x = some c) (hm : (c, o) ∈ R) (hd : o.data = .cell (some (.ref tk)))
    (Λ : Led h₀ L s.heap ((pl, W.listOf [Value.int k t].toArray 0) :: R)) (K : TakeIn R tk pl ns) (hk0 : 0 ≤ k) (hk1 : k ≤ 400) (hl0 : 0 < lim)
    (ret : ∀ r t' t'' s', 0 ≤ r → r < lim → Same s s' → Fr h₀ L s'.heap m → Led h₀ L s'.heap ((pl, W.listOf [Value.int (k + 1) t'].toArray 0) :: R) → Q (.int r t'') s')
    (hx : nok cs .cell x = true := by kernel_rfl) : wpAny (model PG w) A (eval (.Call (.Name x p) [.Constant (.int lim) kd p4] [] p2) env) Q E s := by
  refine takeCall (Γ.cel Λ.N hc (.tail _ hm) hd ⟨rfl, rfl⟩ hx) (K.fn Λ.left) (wpAny_Constant_int ?_) rfl
  exact ⟨K.fn Λ.left, Γ.take (s := { s with toks := _ }) F Λ K hk0 hk1 hl0 ret⟩
end
end Mine
end
section
open PySem PySem.W PySem.Calls PyProof.Rows
namespace Mine
section
variable {w : World} {d : Nat} {cs : Scope} {cl : List (Str × Addr)} {A : Around} {env : Env} {L : Addr} {h₀ : Heap} {m : Str → Option Value} {R l : List (Addr × Obj)} {s : Shared} {E : Value → Shared → Prop}
/-- is_selected, is_described = .. -/
theorem draw_s {Q : Flow → Shared → Prop} {wy : Int} {tw : Tok} {tk pl ct : Addr} {ot : Obj} {ns : List Int} {k : Int} {t : Tok} {k1 k2 k3 k4 k5 k6 k7 k8 k9 k10 k11 k12 k13 k14 k15 : Nat}
    {p1 p2 p3 p4 p5 p6 p7 p8 p9 p10 p11 p12 p13 p14 p15 p16 p17 p18 p19 p20 p21 p22 p23 p24 p25 p26 p27 p28 p29 p30 p31 p32 p33 p34 p35 p36 : Pos}
    (Γ : Fn w d lawScope cl A env L h₀) (F : Fr h₀ L s.heap m) (hw : m (Str.ofString "ways") = some (.int wy tw)) (hc : cl.lookup (Str.ofString "take") = some ct) (hm : (ct, ot) ∈ R) (hd : ot.data = .cell (some (.ref tk)))
    (Λ : Led h₀ L s.heap ((pl, W.listOf [Value.int k t].toArray 0) :: R)) (K : TakeIn R tk pl ns) (hk0 : 0 ≤ k) (hk1 : k ≤ 390)
    (ret : ∀ b1 b2 t' Rn s' m₁ m', Same s s' → Fr h₀ L s'.heap m' → Put (Str.ofString "is_selected") (.bool b1) m m₁ → Put (Str.ofString "is_described") (.bool b2) m₁ m' → Led h₀ L s'.heap ((pl, W.listOf [Value.int (k + 3) t'].toArray 0) :: (Rn ++ R)) → Q .next s') :
    wpAny (model PG w) A (exec (.Assign [.Tuple [.Name (Str.ofString "is_selected") p1, .Name (Str.ofString "is_described") p2] k1 p3]
      (.Subscript (.Tuple [.Tuple [.Constant (.bool true) k2 p4, .Constant (.bool true) k3 p5] k4 p6,
        .Tuple [.Compare (.Call (.Name (Str.ofString "take") p7) [.Constant (.int 5) k5 p8] [] p9) [.Gt] [.Constant (.int 0) k6 p10] p11, .Compare (.Call (.Name (Str.ofString "take") p12) [.Constant (.int 5) k7 p13] [] p14) [.Gt] [.Constant (.int 0) k8 p15] p16] k9 p17,
        .Tuple [.Constant (.bool false) k10 p18, .Constant (.bool false) k11 p19] k12 p20] k13 p21)
        (.IfExp (.Compare (.Call (.Name (Str.ofString "take") p22) [.Constant (.int 3) k14 p23] [] p24) [.Gt] [.Constant (.int 0) k15 p25] p26)
          (.IfExp (.Compare (.Name (Str.ofString "ways") p27) [.Eq] [.Constant (.int 2) k6 p28] p29) (.Constant (.int 1) k7 p30) (.Constant (.int 0) k8 p31) p32) (.Constant (.int 2) k9 p33) p34) p35) p36) env) Q E s := by
  refine Assign_Tuple (Subscript_ (Tuple_ (spliced_more (Tuple_ (spliced_more (wpAny_Constant_bool (spliced_more (wpAny_Constant_bool (spliced_none (newTup_l F Λ (by show 2 ≤ 1000; decide) fun y1 s₁ e₁ F₁ Λ₁ _ => ?_))))))))))
  refine spliced_more (Tuple_ (spliced_more (wpAny_Compare1 (Γ.takeC F₁ hc (.tail _ hm) hd (Λ₁.pulls [1]) (K.mono fun p h => .tail _ h) hk0 (by omega) (by decide) fun r1 t1 u1 s₂ _ _ e₂ F₂ Λ₂ => wpAny_Constant_int (PyProof.Rows.gt_int ?_)))))
  refine spliced_more (wpAny_Compare1 (Γ.takeC (s := { s₂ with toks := _ }) F₂ hc (.tail _ hm) hd Λ₂ (K.mono fun p h => .tail _ h) (by omega) (by omega) (by decide) fun r2 t2 u2 s₃ _ _ e₃ F₃ Λ₃ => wpAny_Constant_int (PyProof.Rows.gt_int ?_)))
  refine spliced_none (newTup_l (s := { s₃ with toks := _ }) F₃ Λ₃ (by show 2 ≤ 1000; decide) fun y2 s₄ e₄ F₄ Λ₄ _ => ?_)
  refine spliced_more (Tuple_ (spliced_more (wpAny_Constant_bool (spliced_more (wpAny_Constant_bool (spliced_none (newTup_l F₄ Λ₄ (by show 2 ≤ 1000; decide) fun y3 s₅ e₅ F₅ Λ₅ _ => ?_)))))))
  refine spliced_none (newTup_l F₅ Λ₅ (by show 3 ≤ 1000; decide) fun y4 s₆ e₆ F₆ Λ₆ _ => ?_)
  have Λ₇ : Led h₀ L s₆.heap ((pl, W.listOf [Value.int (k + 1 + 1) t2].toArray 0) :: ([(y4, tupOf [.ref y1, .ref y2, .ref y3]), (y3, tupOf [.bool false, .bool false]), (y2, tupOf [.bool (decide (0 < r1)), .bool (decide (0 < r2))]), (y1, tupOf [.bool true, .bool true])] ++ R)) := Λ₆.pulls [3]
  have hR : ∀ p ∈ R, p ∈ [(y4, tupOf [.ref y1, .ref y2, .ref y3]), (y3, tupOf [.bool false, .bool false]), (y2, tupOf [.bool (decide (0 < r1)), .bool (decide (0 < r2))]), (y1, tupOf [.bool true, .bool true])] ++ R := fun p h => List.mem_append_right _ h
  -- the place
  have hplace : ∀ (Q' : Value → Shared → Prop), (∀ (i : Nat) u s' t', i < 3 → Same s₆ s' → Fr h₀ L s'.heap m → Led h₀ L s'.heap ((pl, W.listOf [Value.int (k + 3) t'].toArray 0) :: ([(y4, tupOf [.ref y1, .ref y2, .ref y3]), (y3, tupOf [.bool false, .bool false]), (y2, tupOf [.bool (decide (0 < r1)), .bool (decide (0 < r2))]), (y1, tupOf [.bool true, .bool true])] ++ R)) → Q' (.int (i : Int) u) s') →
      wpAny (model PG w) A (eval (.IfExp (.Compare (.Call (.Name (Str.ofString "take") p22) [.Constant (.int 3) k14 p23] [] p24) [.Gt] [.Constant (.int 0) k15 p25] p26)
          (.IfExp (.Compare (.Name (Str.ofString "ways") p27) [.Eq] [.Constant (.int 2) k6 p28] p29) (.Constant (.int 1) k7 p30) (.Constant (.int 0) k8 p31) p32) (.Constant (.int 2) k9 p33) p34) env) Q' E s₆ := by
    intro Q' hQ
    refine wpAny_IfExp (wpAny_isTrue_Compare1 (Γ.takeC F₆ hc (hR _ hm) hd Λ₇ (K.mono hR) (by omega) (by omega) (by decide) fun r3 t3 u3 s₇ _ _ e₇ F₇ Λ₈ => wpAny_Constant_int (PyProof.Rows.gt_int (wpAny_truthy_bool ?_))))
    have e3 : k + 1 + 1 + 1 = k + 3 := by omega
    rw [e3] at Λ₈
    cases decide (0 < r3) with
    | false => exact wpAny_Constant_int (hQ 2 _ _ t3 (by decide) e₇ F₇ Λ₈)
    | true =>
      refine wpAny_IfExp (wpAny_isTrue_Compare1 (Γ.lcl F₇ hw (wpAny_Constant_int (PyProof.Rows.eq_int (wpAny_truthy_bool ?_)))))
      cases wy == 2 with
      | false => exact wpAny_Constant_int (hQ 0 _ _ t3 (by decide) e₇ F₇ Λ₈)
      | true => exact wpAny_Constant_int (hQ 1 _ _ t3 (by decide) e₇ F₇ Λ₈)
  refine hplace _ fun i u s₇ t' hi e₇ F₇ Λ₈ => ?_
  have hsb : ∀ q (b1 b2 : Bool), (q, tupOf [.bool b1, .bool b2]) ∈ [(y4, tupOf [.ref y1, .ref y2, .ref y3]), (y3, tupOf [.bool false, .bool false]), (y2, tupOf [.bool (decide (0 < r1)), .bool (decide (0 < r2))]), (y1, tupOf [.bool true, .bool true])] ++ R →
      wpAny (model PG w) A (assign (.Tuple [.Name (Str.ofString "is_selected") p1, .Name (Str.ofString "is_described") p2] k1 p3) env (.ref q)) (fun _ => Q .next) E s₇ := fun q b1 b2 hq => by
    refine Γ.unp F₇ Λ₈ (.tail _ hq) fun s₈ e₈ F₈ Λ₉ => ?_
    refine assignInOrder_cons (wpAny_assign_Name (Γ.st F₈ Λ₉ fun s₉ m₉ e₉ F₉ p₉ Λ₁₀ => ?_))
    refine assignInOrder_cons (wpAny_assign_Name (Γ.st F₉ Λ₁₀ fun s₁₀ m₁₀ e₁₀ F₁₀ p₁₀ Λ₁₁ => assignInOrder_nil ?_))
    exact ret b1 b2 t' _ s₁₀ m₉ m₁₀ (e₁.trans (e₂.trans (e₃.trans (e₄.trans (e₅.trans (e₆.trans (e₇.trans (e₈.trans (e₉.trans e₁₀))))))))) F₁₀ p₉ p₁₀ Λ₁₁
  refine item_tupleT (l := [.ref y1, .ref y2, .ref y3]) (j := i) (x := [Value.ref y1, .ref y2, .ref y3][i]) ⟨_, Λ₈.get (.tail _ (.head _)), rfl, _, rfl⟩ (by omega) (by omega) (seqIndex_of (by omega) (by show (i : Int) < 3; omega)) (by simp) ?_
  rcases i with _ | _ | _ | i
  · exact hsb y1 true true (.tail _ (.tail _ (.tail _ (.head _))))
  · exact hsb y2 _ _ (.tail _ (.tail _ (.head _)))
  · exact hsb y3 false false (.tail _ (.head _))
  · omega
/-- if is_selected: specs[name] = FileSpec(name) -/
theorem spec_s {Q : Flow → Shared → Prop} {b : Bool} {sd cn : Addr} {so oN : Obj} {sps : List Sp} {k : Str} {tk : Tok} {p1 p2 p3 p4 p5 p6 p7 p8 p9 : Pos}
    (Γ : Fn w d lawScope cl A env L h₀) (F : Fr h₀ L s.heap m) (h1 : m (Str.ofString "is_selected") = some (.bool b)) (h2 : m (Str.ofString "specs") = some (.ref sd)) (hc : cl.lookup (Str.ofString "name") = some cn) (hcn : (cn, oN) ∈ R) (hd : oN.data = .cell (some (.str k tk)))
    (Λ : Led h₀ L s.heap ((sd, so) :: (spE w.params sps ++ R))) (hso : IsD w so (sps.map Sp.kv)) (hk : k ∉ sps.map Sp.name) (hz : sps.length ≤ 5)
    (ret : ∀ so' sps' Rn s', Same s s' → Fr h₀ L s'.heap m → Led h₀ L s'.heap ((sd, so') :: (spE w.params sps' ++ (Rn ++ R))) → IsD w so' (sps'.map Sp.kv) → ((b = false ∧ sps' = sps) ∨ (b = true ∧ ∃ sp, sp.name = k ∧ sps' = sps ++ [sp] ∧ SpIn Rn sp)) → Q .next s') :
    wpAny (model PG w) A (exec (.If (.Name (Str.ofString "is_selected") p1) [.Assign [.Subscript (.Name (Str.ofString "specs") p2) (.Name (Str.ofString "name") p3) p4] (.Call (.Name (Str.ofString "FileSpec") p5) [.Name (Str.ofString "name") p6] [] p7) p8] [] p9) env) Q E s := by
  refine wpAny_If (wpAny_isTrue_value (Γ.lcl F h1 (wpAny_truthy_bool ?_)))
  cases b with
  | false => exact wpAny_execs_nil (ret so sps [] s ⟨rfl, rfl, rfl⟩ F Λ hso (.inl ⟨rfl, rfl⟩))
  | true =>
    show wpAny (model PG w) A (execs [_] env) _ _ _
    have hcm : (cn, oN) ∈ (sd, so) :: (spE w.params sps ++ R) := .tail _ (List.mem_append_right _ hcn)
    refine wpAny_execs_cons (wpAny_Assign_Subscript (Γ.callK F (.ref 213) (spliced_more (Γ.cel Λ.N hc hcm hd (spliced_none ⟨⟨_, F⟩, ?_⟩)))))
    refine Γ.file F Λ fun x dx vs tf s₁ e₁ F₁ Λ₁ hR => ?_
    refine Γ.lcl F₁ h2 (Γ.cel Λ₁.N hc (.tail _ (.tail _ hcm)) hd ?_)
    have Λ₂ : Led h₀ L s₁.heap ((sd, so) :: (x, instObj 213 dx) :: (dx, dictOf (entsD w.params tf vs) 10) :: (spE w.params sps ++ R)) := Λ₁.pulls [2]
    have hks : (sps.map Sp.kv).length = sps.length := List.length_map _
    refine put_l F₁ Λ₂ hso (by omega) fun so' s₂ e₂ F₂ Λ₃ hso' => ?_
    let sp : Sp := ⟨k, x, dx, vs, tf⟩
    have hst : stored (sps.map Sp.kv) k (.ref x) = (sps ++ [sp]).map Sp.kv := by
      unfold stored
      rw [if_neg, List.map_append]
      · rfl
      · intro h
        obtain ⟨q, hq, e⟩ := List.any_eq_true.mp h
        refine hk ?_
        rw [← kv_names, ← of_decide_eq_true e]
        exact List.mem_map.mpr ⟨q, hq, rfl⟩
    rw [hst] at hso'
    refine wpAny_execs_nil (ret so' (sps ++ [sp]) [(x, instObj 213 dx)] s₂ (e₁.trans e₂) F₂ ?_ hso' (.inr ⟨rfl, sp, rfl, rfl, .head _, hR⟩))
    refine Λ₃.perm (List.Perm.cons _ ?_)
    rw [show spE w.params (sps ++ [sp]) = spE w.params sps ++ [sp.dE w.params] by unfold spE; rw [List.map_append]; rfl, List.append_assoc]
    exact (List.perm_append_comm_assoc [(x, instObj 213 dx), sp.dE w.params] (spE w.params sps) R).trans (.append_left _ (.swap _ _ _))
/-- is_wrong = is_wrong or is_selected != is_described -/
theorem wrong_s {Q : Flow → Shared → Prop} {b1 b2 b3 : Bool} {p1 p2 p3 p4 p5 p6 p7 : Pos} (Γ : Fn w d lawScope cl A env L h₀) (F : Fr h₀ L s.heap m) (Λ : Led h₀ L s.heap l) (h1 : m (Str.ofString "is_selected") = some (.bool b1)) (h2 : m (Str.ofString "is_described") = some (.bool b2)) (h3 : m (Str.ofString "is_wrong") = some (.bool b3))
    (ret : ∀ s' m', Same s s' → Fr h₀ L s'.heap m' → Put (Str.ofString "is_wrong") (.bool (b3 || b1 != b2)) m m' → Led h₀ L s'.heap l → Q .next s') :
    wpAny (model PG w) A (exec (.Assign [.Name (Str.ofString "is_wrong") p1] (.BoolOp .Or [.Name (Str.ofString "is_wrong") p2, .Compare (.Name (Str.ofString "is_selected") p3) [.NotEq] [.Name (Str.ofString "is_described") p4] p5] p6) p7) env) Q E s := by
  refine wpAny_Assign_Name (wpAny_Or2 (Γ.lcl F h3 (wpAny_truthy_bool ?_)))
  cases b3 with
  | true => exact Γ.st F Λ fun s' m' e F' p Λ' => ret s' m' e F' p Λ'
  | false =>
    refine wpAny_Compare1 (Γ.lcl F h1 (Γ.lcl F h2 ?_))
    refine SeqAt.RcNeAt.bool_bool b1 b2 PG w E _ ?_
    exact Γ.st F Λ fun s' m' e F' p Λ' => ret s' m' e F' p Λ'
end
end Mine
end
section
open PySem PySem.W PySem.Calls PyProof.Rows
namespace Mine
theorem stored_new {k : Str} {v : Value} {kvs : List (Str × Value)} (h : k ∉ kvs.map (·.1)) : stored kvs k v = kvs ++ [(k, v)] := by
  unfold stored
  rw [if_neg]
  intro e
  obtain ⟨q, hq, e⟩ := List.any_eq_true.mp e
  exact h (List.mem_map.mpr ⟨q, hq, of_decide_eq_true e⟩)
/-- the names of a file's records -/
def recN (nm : Str) (n : Nat) : List Str := (List.range n).map fun j => (nm ++ Str.ofString "-R") ++ numStr j
theorem recN_succ (nm : Str) (n : Nat) : recN nm (n + 1) = recN nm n ++ [(nm ++ Str.ofString "-R") ++ numStr n] := by
  unfold recN
  rw [List.range_succ, List.map_append]; rfl
section
variable {w : World} {d : Nat} {cs : Scope} {cl : List (Str × Addr)} {A : Around} {env : Env} {L : Addr} {h₀ : Heap} {m : Str → Option Value} {R l : List (Addr × Obj)} {s : Shared} {E : Value → Shared → Prop}
/-- the trees of a file's records, as they are made -/
def JT (P : Params) (pl fl : Addr) (nm : Str) (fs : List Str) (k1 : Int) (n1 : Nat) (RR : List (Addr × Obj)) (i : Nat) (ys : List Value) (l : List (Addr × Obj)) : Prop :=
  ∃ k t fvs nf ts Rn, l = (pl, W.listOf [Value.int k t].toArray 0) :: (fl, W.listOf fvs.toArray nf) :: (Rn ++ RR) ∧ ys = refsT ts ∧ TreesIn P NAMES Rn ts ∧ ts.length = i ∧ ts.map (·.2.1) = recN nm i ∧ StrsAre fvs (fs ++ ts.flatMap (·.2.2)) ∧ k1 ≤ k ∧ k ≤ k1 + 16 * i ∧ fvs.length ≤ n1 + 8 * i
set_option maxHeartbeats 2000000 in
/-- [_law_root(take, name + '-R' + str(turn), found) for turn in range(1 + take(2))] -/
theorem roots_comp {Q : Value → Shared → Prop} {tk pl fl ct cf cn : Addr} {ot of' oN : Obj} {ns : List Int} {k : Int} {t tn : Tok} {nm : Str} {fvs : List Value} {fs : List Str} {nf : Nat} {scope : Scope} {clc : List (Str × Addr)} {kd kd2 kd3 : Nat}
    {p1 p2 p3 p4 p5 p6 p7 p8 p9 p10 p11 p12 p13 p14 p15 p16 p17 p18 p19 p20 : Pos}
    (Γ : Fn w d lawScope cl A env L h₀) (hd' : d < 700) (F : Fr h₀ L s.heap m) (hct : cl.lookup (Str.ofString "take") = some ct) (hmt : (ct, ot) ∈ R) (hdt : ot.data = .cell (some (.ref tk))) (hmf : (cf, of') ∈ R) (hdf : of'.data = .cell (some (.ref fl))) (hmn : (cn, oN) ∈ R) (hdn : oN.data = .cell (some (.str nm tn)))
    (hclos : closOf cl scope.names [] = some clc) (hl1 : clc.lookup (Str.ofString "take") = some ct) (hl2 : clc.lookup (Str.ofString "found") = some cf) (hl3 : clc.lookup (Str.ofString "name") = some cn)
    (hsc : (compNames (Str.ofString "turn") scope && nok scope .local (Str.ofString "turn") && nok scope .globalImplicit (Str.ofString "_law_root") && nok scope .globalImplicit (Str.ofString "str") && nok scope .free (Str.ofString "take") && nok scope .free (Str.ofString "found") && nok scope .free (Str.ofString "name")) = true) (hk : scope.kind = .function)
    (Λ : Led h₀ L s.heap ((pl, W.listOf [Value.int k t].toArray 0) :: (fl, W.listOf fvs.toArray nf) :: R)) (K : TakeIn R tk pl ns) (hk0 : 0 ≤ k) (hk1 : k ≤ 340) (hnm : nm.length ≤ 40) (hfs : StrsAre fvs fs) (hfl : fvs.length ≤ 900)
    (ret : ∀ D k' t' fvs' nf' ts Rn s', Same s s' → Fr h₀ L s'.heap m → Led h₀ L s'.heap ((D, W.listOf (refsT ts).toArray ts.length) :: (pl, W.listOf [Value.int k' t'].toArray 0) :: (fl, W.listOf fvs'.toArray nf') :: (Rn ++ R)) → TreesIn w.params NAMES Rn ts → ts.length ≤ 2 → ts.map (·.2.1) = recN nm ts.length →
      StrsAre fvs' (fs ++ ts.flatMap (·.2.2)) → k ≤ k' → k' ≤ k + 33 → fvs'.length ≤ fvs.length + 16 → Q (.ref D) s') :
    wpAny (model PG w) A (eval (.ListComp (.Call (.Name (Str.ofString "_law_root") p1) [.Name (Str.ofString "take") p2, .BinOp (.BinOp (.Name (Str.ofString "name") p3) .Add (.Constant (.str (Str.ofString "-R")) kd p4) p5) .Add (.Call (.Name (Str.ofString "str") p6) [.Name (Str.ofString "turn") p7] [] p8) p9, .Name (Str.ofString "found") p10] [] p11)
      [⟨.Name (Str.ofString "turn") p12, .Call (.Name (Str.ofString "range") p13) [.BinOp (.Constant (.int 1) kd2 p14) .Add (.Call (.Name (Str.ofString "take") p15) [.Constant (.int 2) kd3 p16] [] p17) p18] [] p19, [], 0⟩] scope p20) env) Q E s := by
  simp only [Bool.and_eq_true] at hsc
  obtain ⟨⟨⟨⟨⟨⟨n1, n2⟩, n3⟩, n4⟩, n5⟩, n6⟩, n7⟩ := hsc
  have hKR : ∀ p ∈ R, p ∈ (fl, W.listOf fvs.toArray nf) :: R := fun p h => .tail _ h
  refine Γ.compR F hclos (wpAny_BinOp (wpAny_Constant_int (Γ.takeC (s := { s with toks := _ }) F hct (hKR _ hmt) hdt Λ (K.mono hKR) hk0 (by omega) (by decide) fun r t' t'' s₁ hr0 hr1 e₁ F₁ Λ₁ => PyProof.Rows.add_int ?_))) (hn := n1)
  refine ⟨(1 + r).toNat, _, _, _, by rw [Int.toNat_of_nonneg (by omega)], by omega, F₁, Λ₁, comps (JT w.params pl fl nm fs (k + 1) fvs.length R) ⟨_, _, _, _, [], [], rfl, rfl, (fun _ h => nomatch h), rfl, rfl, by rw [List.flatMap_nil, List.append_nil]; exact hfs, by omega, by omega, by omega⟩ ?_ ?_⟩
  · clear F Λ F₁ Λ₁ e₁
    rintro i v mc ys _ s₂ I oI C oC D E2 hi ⟨ti, rfl⟩ ⟨k', t₁, fvs₁, nf₁, ts, Rn, rfl, rfl, hT, hl, hnms, hS, hk', hk'', hf'⟩ hex e₂ F₁ hoC hmx Λ₁
    have hin : ∀ {p}, p ∈ R → p ∈ (I, oI) :: (C, oC) :: (D, lst (refsT ts)) :: (pl, W.listOf [Value.int k' t₁].toArray 0) :: (fl, W.listOf fvs₁.toArray nf₁) :: (Rn ++ R) := fun h => .tail _ (.tail _ (.tail _ (.tail _ (.tail _ (List.mem_append_right _ h)))))
    have hz1 : (Str.ofString "-R").length ≤ 5 := by decide +kernel
    refine Γ.cCallK F₁ (.ref 233) ?_ (hx := n3) (hk := hk)
    refine spliced_more (Γ.cFree Λ₁.N hl1 (hin hmt) hdt (spliced_more (wpAny_BinOp (wpAny_BinOp (Γ.cFree Λ₁.N hl3 (hin hmn) hdn (wpAny_Constant_str (PyProof.Rows.add_str (fun t₂ tk₂ => ?_) (by rw [sizeLine_eq]; omega))) (hx := n7) (hk := hk))))) (hx := n5) (hk := hk))
    refine Γ.cCallT1 F₁ str_boot (c_lcl Λ₁.N (.tail _ (.head _)) hoC hmx (PySem.P.str_of_int (natlog (by omega)) (PyProof.Rows.add_str (fun t₃ tk₃ => ?_) (fits_num (by omega) (by rw [PySem.Str.length_append]; omega)))) n2 hk) (hx := n4) (hk := hk)
    refine spliced_more (Γ.cFree Λ₁.N hl2 (hin hmf) hdf (spliced_none ⟨⟨_, F₁⟩, ?_⟩) (hx := n6) (hk := hk))
    have Λ₂ : Led h₀ L s₂.heap ((pl, W.listOf [Value.int k' t₁].toArray 0) :: (fl, W.listOf fvs₁.toArray nf₁) :: ([(I, oI), (C, oC), (D, lst (refsT ts))] ++ (Rn ++ R))) := Λ₁.pulls [4, 4]
    have hnum : (numStr i).length ≤ 1 := Nat.le_of_eq (small_num (by omega))
    refine root_c (s := { s₂ with toks := _ }) Γ (by omega) F₁ Λ₂ (K.mono fun p h => List.mem_append_right _ (List.mem_append_right _ h)) (by omega) (by omega) (by unfold numStr at hnum; rw [PySem.Str.length_append, PySem.Str.length_append]; omega) hS (by omega) fun x zs k₂ t₂ fvs₂ nf₂ Rn₂ s₃ e₃ F₂ Λ₃ hk₂ hk₂' hS₂ hT₂ => ?_
    have hl₂ : fvs₂.length = fvs₁.length + zs.length := by rw [hS₂.length, hS.length, List.length_append]
    have hz : zs.length ≤ 8 := by obtain ⟨_, _, _, _, h, _⟩ := hT₂; exact h
    refine ⟨(pl, _) :: (fl, _) :: ((Rn₂ ++ Rn) ++ R), e₃, F₂, ?_, (fun _ h => nomatch h), k₂, t₂, fvs₂, nf₂, ts ++ [(x, (nm ++ Str.ofString "-R") ++ numStr i, zs)], Rn₂ ++ Rn, rfl, ?_, ?_, by rw [List.length_append, hl]; rfl, ?_, ?_, by omega, by omega, by omega⟩
    · rw [List.append_assoc]
      exact Λ₃.perm (((List.perm_append_comm_assoc Rn₂ [_, _, _] (Rn ++ R)).append_left [_, _]).trans (pulls_perm [4, 4, 4] _))
    · show refsT ts ++ [Value.ref x] = (ts ++ [_]).map fun t : Tr => Value.ref t.1
      rw [List.map_append]; rfl
    · intro q hq
      rcases List.mem_append.mp hq with hq | hq
      · exact (hT q hq).mono fun p h => List.mem_append_right _ h
      · rw [List.mem_singleton.mp hq]; exact hT₂.mono fun p h => List.mem_append_left _ h
    · rw [List.map_append, hnms, recN_succ]; rfl
    · rw [List.flatMap_append, ← List.append_assoc]
      simpa using hS₂
  · rintro D s₂ ys _ ⟨k', t₁, fvs₁, nf₁, ts, Rn, rfl, rfl, hT, hl, hnms, hS, hk', hk'', hf'⟩ hex e₂ F₂ Λ₂
    have hlr : (refsT ts).length = ts.length := List.length_map _
    refine ret D k' t₁ fvs₁ nf₁ ts Rn s₂ (e₁.trans e₂) F₂ ?_ hT (by omega) (by rw [hl]; exact hnms) hS (by omega) (by omega) (by omega)
    rw [← hlr]; exact Λ₂
set_option maxHeartbeats 2000000 in
/-- if is_described: data.files[name] = ..; if take(3) == 0: data.sorts.append(name) -/
theorem file_s {Q : Flow → Shared → Prop} {b : Bool} {x dx wl ll fd sl : Addr} {vs : List (Str × Value)} {tf : Nat → Tok} {o : Obj} {kvs : List (Str × Value)} {svs : List Value} {sos : List Str} {nsv : Nat} {tk pl fl ct cf cn : Addr} {ot of' oN : Obj} {ns : List Int} {k : Int} {t tn : Tok} {nm : Str} {fvs : List Value} {fs : List Str} {nf : Nat} {scope : Scope} {clc : List (Str × Addr)} {kd kd2 kd3 kd4 kd5 : Nat}
    {p1 p2 p3 p4 p5 p6 p7 p8 p9 p10 p11 p12 p13 p14 p15 p16 p17 p18 p19 p20 q1 q2 q3 q4 q5 q6 q7 q8 q9 q10 q11 q12 q13 q14 q15 q16 q17 q18 q19 : Pos}
    (Γ : Fn w d lawScope cl A env L h₀) (hd' : d < 700) (F : Fr h₀ L s.heap m) (hct : cl.lookup (Str.ofString "take") = some ct) (hmt : (ct, ot) ∈ R) (hdt : ot.data = .cell (some (.ref tk))) (hmf : (cf, of') ∈ R) (hdf : of'.data = .cell (some (.ref fl))) (hcn : cl.lookup (Str.ofString "name") = some cn) (hmn : (cn, oN) ∈ R) (hdn : oN.data = .cell (some (.str nm tn)))
    (hclos : closOf cl scope.names [] = some clc) (hl1 : clc.lookup (Str.ofString "take") = some ct) (hl2 : clc.lookup (Str.ofString "found") = some cf) (hl3 : clc.lookup (Str.ofString "name") = some cn)
    (hsc : (compNames (Str.ofString "turn") scope && nok scope .local (Str.ofString "turn") && nok scope .globalImplicit (Str.ofString "_law_root") && nok scope .globalImplicit (Str.ofString "str") && nok scope .free (Str.ofString "take") && nok scope .free (Str.ofString "found") && nok scope .free (Str.ofString "name")) = true) (hk : scope.kind = .function)
    (hb : m (Str.ofString "is_described") = some (.bool b)) (hx : m (Str.ofString "data") = some (.ref x)) (hmx : (x, instObj 159 dx) ∈ R) (hmd : (dx, dictOf (entsD w.params tf vs) 6) ∈ R) (D : DataRec vs wl ll fd sl)
    (Λ : Led h₀ L s.heap ((pl, W.listOf [Value.int k t].toArray 0) :: (fl, W.listOf fvs.toArray nf) :: (fd, o) :: (sl, W.listOf svs.toArray nsv) :: R)) (K : TakeIn R tk pl ns) (hk0 : 0 ≤ k) (hk1 : k ≤ 340) (hnm : nm.length ≤ 40) (hfs : StrsAre fvs fs) (hfl : fvs.length ≤ 900)
    (hd : IsD w o kvs) (hnk : nm ∉ kvs.map (·.1)) (hkz : kvs.length ≤ 5) (hS : StrsAre svs sos) (hsz : svs.length ≤ 100)
    (happ : ∃ pl : Sem Bool, eval (.Call (.Attribute (.Attribute (.Name (Str.ofString "data") q12) (Str.ofString "sorts") q13) (Str.ofString "append") q14) [.Name (Str.ofString "name") q15] [] q16) env = (do
      let ov ← eval (.Attribute (.Name (Str.ofString "data") q12) (Str.ofString "sorts") q13) env
      standAt q14.atName
      let (f, first) ← holding [ov] (getMethod ov (Str.ofString "append") pl)
      callWith q16 f first (backTo q16 (starEach [.Name (Str.ofString "name") q15] env)) (backToKw q16 (keywordEach [] env))))
    (ret : ∀ o' kvs' svs' sos' nsv' k' t' fvs' nf' ts Rn s', Same s s' → Fr h₀ L s'.heap m → Led h₀ L s'.heap ((pl, W.listOf [Value.int k' t'].toArray 0) :: (fl, W.listOf fvs'.toArray nf') :: (fd, o') :: (sl, W.listOf svs'.toArray nsv') :: (Rn ++ R)) →
      k ≤ k' → k' ≤ k + 34 → fvs'.length ≤ fvs.length + 16 → StrsAre fvs' (fs ++ ts.flatMap (·.2.2)) → StrsAre svs' sos' → IsD w o' kvs' → (sos' = sos ∨ sos' = sos ++ [nm]) → ((b = false ∧ kvs' = kvs ∧ ts = [] ∧ sos' = sos) ∨
        (b = true ∧ ∃ a na, kvs' = kvs ++ [(nm, .ref a)] ∧ (a, W.listOf (refsT ts).toArray na) ∈ Rn ∧ TreesIn w.params NAMES Rn ts ∧ ts.length ≤ 2 ∧ ts.map (·.2.1) = recN nm ts.length)) → Q .next s') :
    wpAny (model PG w) A (exec (.If (.Name (Str.ofString "is_described") q1) [.Assign [.Subscript (.Attribute (.Name (Str.ofString "data") q2) (Str.ofString "files") q3) (.Name (Str.ofString "name") q4) q5]
      (.ListComp (.Call (.Name (Str.ofString "_law_root") p1) [.Name (Str.ofString "take") p2, .BinOp (.BinOp (.Name (Str.ofString "name") p3) .Add (.Constant (.str (Str.ofString "-R")) kd p4) p5) .Add (.Call (.Name (Str.ofString "str") p6) [.Name (Str.ofString "turn") p7] [] p8) p9, .Name (Str.ofString "found") p10] [] p11)
        [⟨.Name (Str.ofString "turn") p12, .Call (.Name (Str.ofString "range") p13) [.BinOp (.Constant (.int 1) kd2 p14) .Add (.Call (.Name (Str.ofString "take") p15) [.Constant (.int 2) kd3 p16] [] p17) p18] [] p19, [], 0⟩] scope p20) q6,
      .If (.Compare (.Call (.Name (Str.ofString "take") q7) [.Constant (.int 3) kd4 q8] [] q9) [.Eq] [.Constant (.int 0) kd5 q10] q11)
        [.Expr (.Call (.Attribute (.Attribute (.Name (Str.ofString "data") q12) (Str.ofString "sorts") q13) (Str.ofString "append") q14) [.Name (Str.ofString "name") q15] [] q16) q17] [] q18] [] q19) env) Q E s := by
  refine wpAny_If (wpAny_isTrue_value (Γ.lcl F hb (wpAny_truthy_bool ?_)))
  cases b with
  | false => exact wpAny_execs_nil (ret o kvs svs sos nsv k t fvs nf [] [] s ⟨rfl, rfl, rfl⟩ F Λ (by omega) (by omega) (by omega) (by rw [List.flatMap_nil, List.append_nil]; exact hfs) hS hd (.inl rfl) (.inl ⟨rfl, rfl, rfl, rfl⟩))
  | true =>
    show wpAny (model PG w) A (execs [_, _] env) _ _ _
    have hin : ∀ {p}, p ∈ R → p ∈ (fd, o) :: (sl, W.listOf svs.toArray nsv) :: R := fun h => .tail _ (.tail _ h)
    refine wpAny_execs_cons (wpAny_Assign_Subscript (roots_comp Γ hd' F hct (hin hmt) hdt (hin hmf) hdf (hin hmn) hdn hclos hl1 hl2 hl3 hsc hk Λ (K.mono fun p h => hin h) hk0 hk1 hnm hfs hfl fun Dl k' t' fvs' nf' ts Rn s₁ e₁ F₁ Λ₁ hT hz hnms hS' hk' hk'' hf' => ?_))
    have hin1 : ∀ {p}, p ∈ R → p ∈ (Dl, W.listOf (refsT ts).toArray ts.length) :: (pl, W.listOf [Value.int k' t'].toArray 0) :: (fl, W.listOf fvs'.toArray nf') :: (Rn ++ (fd, o) :: (sl, W.listOf svs.toArray nsv) :: R) := fun h => .tail _ (.tail _ (.tail _ (List.mem_append_right _ (hin h))))
    refine Γ.attr F₁ Λ₁.N hx (hin1 hmx) (hin1 hmd) D.2.2.1 (Γ.cel (s := { s₁ with toks := _ }) Λ₁.N hcn (hin1 hmn) hdn ?_)
    have Λ₂ : Led h₀ L s₁.heap ((fd, o) :: (pl, W.listOf [Value.int k' t'].toArray 0) :: (sl, W.listOf svs.toArray nsv) :: (fl, W.listOf fvs'.toArray nf') :: (((Dl, W.listOf (refsT ts).toArray ts.length) :: Rn) ++ R)) :=
      Λ₁.perm (((List.perm_append_comm_assoc Rn [(fd, o), (sl, W.listOf svs.toArray nsv)] R).append_left [_, _, _]).trans (pulls_perm [2, 4, 3, 4] _))
    refine put_l (s := { s₁ with toks := _ }) F₁ Λ₂ hd (by omega) fun o' s₂ e₂ F₂ Λ₃ hd2 => ?_
    rw [stored_new hnk] at hd2
    -- if take(3) == 0
    have hin2 : ∀ {p}, p ∈ R → p ∈ (fd, o') :: (sl, W.listOf svs.toArray nsv) :: (fl, W.listOf fvs'.toArray nf') :: (((Dl, W.listOf (refsT ts).toArray ts.length) :: Rn) ++ R) := fun h => .tail _ (.tail _ (.tail _ (List.mem_append_right _ h)))
    refine wpAny_execs_cons (wpAny_If (wpAny_isTrue_Compare1 (Γ.takeC F₂ hct (hin2 hmt) hdt (Λ₃.pulls [1]) (K.mono fun p h => hin2 h) (by omega) (by omega) (by decide) fun r t1 u1 s₃ _ _ e₃ F₃ Λ₄ => wpAny_Constant_int (PyProof.Rows.eq_int (wpAny_truthy_bool ?_)))))
    have he : Same s s₃ := e₁.trans (e₂.trans e₃)
    have fin : ∀ svs' sos' nsv' s', Same s₃ s' → Fr h₀ L s'.heap m → Led h₀ L s'.heap ((pl, W.listOf [Value.int (k' + 1) t1].toArray 0) :: (fl, W.listOf fvs'.toArray nf') :: (fd, o') :: (sl, W.listOf svs'.toArray nsv') :: (((Dl, W.listOf (refsT ts).toArray ts.length) :: Rn) ++ R)) → StrsAre svs' sos' → (sos' = sos ∨ sos' = sos ++ [nm]) → Q .next s' :=
      fun svs' sos' nsv' s' e' F' Λ' hS2 hor => ret o' _ svs' sos' nsv' (k' + 1) t1 fvs' nf' ts ((Dl, _) :: Rn) s' (he.trans e') F' Λ' (by omega) (by omega) hf' hS' hS2 hd2 hor (.inr ⟨rfl, Dl, _, rfl, .head _, hT.mono fun p h => .tail _ h, hz, hnms⟩)
    cases r == 0 with
    | false => exact wpAny_execs_nil (wpAny_execs_nil (fin svs sos nsv { s₃ with toks := _ } ⟨rfl, rfl, rfl⟩ F₃ (Λ₄.pulls [2, 2, 3, 3]) hS (.inl rfl)))
    | true =>
      show wpAny (model PG w) A (execs [_] env) _ _ _
      have hin3 : ∀ {p}, p ∈ R → p ∈ (pl, W.listOf [Value.int (k' + 1) t1].toArray 0) :: (fd, o') :: (sl, W.listOf svs.toArray nsv) :: (fl, W.listOf fvs'.toArray nf') :: (((Dl, W.listOf (refsT ts).toArray ts.length) :: Rn) ++ R) := fun h => .tail _ (hin2 h)
      obtain ⟨pl', happ⟩ := happ
      refine wpAny_execs_cons (stmt_append (pl := pl') (Γ.attr (s := { s₃ with toks := _ }) F₃ Λ₄.N hx (hin3 hmx) (hin3 hmd) D.2.2.2.1 ⟨sl, _, _, rfl, Λ₄.get (.tail _ (.tail _ (.head _))), ?_⟩) (hi := Γ.inter) (hc := happ))
      refine Γ.cel (s := { s₃ with toks := _ }) Λ₄.N hcn (hin3 hmn) hdn ?_
      refine app_l (s := { s₃ with toks := _ }) F₃ (Λ₄.pulls [2]) (by omega) fun s₄ e₄ F₄ Λ₅ => wpAny_execs_nil (wpAny_execs_nil (fin _ (sos ++ [nm]) _ s₄ e₄ F₄ (Λ₅.pulls [2, 3, 3]) (strs_snoc hS) (.inr rfl)))
end
end Mine
end
section
open PySem PySem.W PySem.Calls PyProof.Rows
namespace Mine
section
variable {w : World} {d : Nat} {cs : Scope} {cl : List (Str × Addr)} {A : Around} {env : Env} {L : Addr} {h₀ : Heap} {m : Str → Option Value} {R l : List (Addr × Obj)} {s : Shared} {E : Value → Shared → Prop}
set_option maxHeartbeats 2000000 in
/-- if is_selected and is_described: dues[name] = (name, tuple([..]), name in data.sorts) -/
theorem due_s {Q : Flow → Shared → Prop} {b1 b2 : Bool} {x dx wl ll fd sl ud : Addr} {vs : List (Str × Value)} {tf : Nat → Tok} {o uo : Obj} {kvs dvs : List (Str × Value)} {svs : List Value} {sos : List Str} {nsv : Nat} {cn cu : Addr} {oN oU : Obj} {tn : Tok} {nm : Str} {a : Addr} {n na : Nat} {us : List Value} {scope : Scope} {clc : List (Str × Addr)} {kd kd1 : Nat}
    {p1 p2 p3 p4 p5 p6 p7 p8 p9 p10 p11 p12 p13 p14 p15 p16 p17 p18 p19 p20 q1 q2 q3 q4 q5 q6 q7 q8 q9 q10 q11 q12 q13 : Pos}
    (Γ : Fn w d lawScope cl A env L h₀) (F : Fr h₀ L s.heap m) (hcn : cl.lookup (Str.ofString "name") = some cn) (hmn : (cn, oN) ∈ R) (hdn : oN.data = .cell (some (.str nm tn))) (hcu : cl.lookup (Str.ofString "dues") = some cu) (hmu : (cu, oU) ∈ R) (hdu : oU.data = .cell (some (.ref ud)))
    (hclos : closOf cl scope.names [] = some clc) (hl3 : clc.lookup (Str.ofString "name") = some cn)
    (hsc : (compNames (Str.ofString "turn") scope && nok scope .local (Str.ofString "turn") && nok scope .globalImplicit (Str.ofString "str") && nok scope .free (Str.ofString "name")) = true) (hk : scope.kind = .function)
    (hb1 : m (Str.ofString "is_selected") = some (.bool b1)) (hb2 : m (Str.ofString "is_described") = some (.bool b2)) (hx : m (Str.ofString "data") = some (.ref x)) (hmx : (x, instObj 159 dx) ∈ R) (hmd : (dx, dictOf (entsD w.params tf vs) 6) ∈ R) (D : DataRec vs wl ll fd sl)
    (Λ : Led h₀ L s.heap ((ud, uo) :: R)) (hmo : (fd, o) ∈ R) (ho : IsD w o kvs) (hval : b2 = true → valueAt kvs nm = some (.ref a) ∧ (a, W.listOf us.toArray na) ∈ R) (hn : us.length = n) (hz : n ≤ 2) (hms : (sl, W.listOf svs.toArray nsv) ∈ R) (hS : StrsAre svs sos) (hnm : nm.length ≤ 40)
    (hu : IsD w uo dvs) (hnk : nm ∉ dvs.map (·.1)) (hdz : dvs.length ≤ 5)
    (ret : ∀ uo' dvs' Rn s', Same s s' → Fr h₀ L s'.heap m → Led h₀ L s'.heap ((ud, uo') :: (Rn ++ R)) → IsD w uo' dvs' → (((b1 && b2) = false ∧ dvs' = dvs) ∨ ((b1 && b2) = true ∧ ∃ v, dvs' = dvs ++ [(nm, v)] ∧ RowIn Rn v (nm, recN nm n, sos.any (· == nm)))) → Q .next s') :
    wpAny (model PG w) A (exec (.If (.BoolOp .And [.Name (Str.ofString "is_selected") q1, .Name (Str.ofString "is_described") q2] q3) [.Assign [.Subscript (.Name (Str.ofString "dues") q4) (.Name (Str.ofString "name") q5) q6]
      (.Tuple [.Name (Str.ofString "name") q7, .Call (.Name (Str.ofString "tuple") q8) [.ListComp (.BinOp (.BinOp (.Name (Str.ofString "name") p3) .Add (.Constant (.str (Str.ofString "-R")) kd p4) p5) .Add (.Call (.Name (Str.ofString "str") p6) [.Name (Str.ofString "turn") p7] [] p8) p9)
        [⟨.Name (Str.ofString "turn") p12, .Call (.Name (Str.ofString "range") p13) [.Call (.Name (Str.ofString "len") p14) [.Subscript (.Attribute (.Name (Str.ofString "data") p15) (Str.ofString "files") p16) (.Name (Str.ofString "name") p17) p18] [] p19] [] p20, [], 0⟩] scope p1] [] p2,
        .Compare (.Name (Str.ofString "name") q9) [.In] [.Attribute (.Name (Str.ofString "data") q10) (Str.ofString "sorts") q11] q12] kd1 p10) p11] [] q13) env) Q E s := by
  simp only [Bool.and_eq_true] at hsc
  obtain ⟨⟨⟨n1, n2⟩, n4⟩, n7⟩ := hsc
  refine wpAny_If (wpAny_isTrue_BoolOp (wpAny_allTrue_And_cons (wpAny_isTrue_value (Γ.lcl F hb1 (wpAny_truthy_bool ?_)))))
  cases b1 with
  | false => exact wpAny_execs_nil (ret uo dvs [] s ⟨rfl, rfl, rfl⟩ F Λ hu (.inl ⟨rfl, rfl⟩))
  | true =>
    rw [if_pos rfl]
    refine wpAny_allTrue_And_cons (wpAny_isTrue_value (Γ.lcl F hb2 (wpAny_truthy_bool ?_)))
    cases b2 with
    | false => exact wpAny_execs_nil (ret uo dvs [] s ⟨rfl, rfl, rfl⟩ F Λ hu (.inl ⟨rfl, rfl⟩))
    | true =>
      obtain ⟨hval, hma⟩ := hval rfl
      rw [if_pos rfl]
      refine wpAny_allTrue_And_nil ?_
      show wpAny (model PG w) A (execs [_] env) _ _ _
      have hz1 : (Str.ofString "-R").length ≤ 5 := by decide +kernel
      refine wpAny_execs_cons (wpAny_Assign_Subscript (Tuple_ (spliced_more (Γ.cel Λ.N hcn (.tail _ hmn) hdn (spliced_more (Γ.callT1 F tuple_boot (Γ.compR F hclos (Γ.callB1 F len_boot (Subscript_ (Γ.attr F Λ.N hx (.tail _ hmx) (.tail _ hmd) D.2.2.1 (Γ.cel (s := { s with toks := _ }) Λ.N hcn (.tail _ hmn) hdn (get_l (s := { s with toks := _ }) Λ (.tail _ hmo) ho hval (len_l (s := { s with toks := _ }) Λ.N (.tail _ hma) (by omega) fun t1 k1 => ?_)))))) (hn := n1))))))))
      rw [hn]
      refine ⟨n, t1, m, _, rfl, by omega, F, Λ, comps (fun i ys l => l = (ud, uo) :: R ∧ StrsAre ys (recN nm i)) ⟨rfl, .nil⟩ ?_ ?_⟩
      · clear F Λ
        rintro i v mc ys _ s₂ I oI C oC Dl E2 hi ⟨ti, rfl⟩ ⟨rfl, hys⟩ hex e₂ F₁ hoC hmx2 Λ₁
        have hin : ∀ {p}, p ∈ R → p ∈ (I, oI) :: (C, oC) :: (Dl, lst ys) :: (ud, uo) :: R := fun h => .tail _ (.tail _ (.tail _ (.tail _ h)))
        refine wpAny_BinOp (wpAny_BinOp (Γ.cFree Λ₁.N hl3 (hin hmn) hdn (wpAny_Constant_str (PyProof.Rows.add_str (fun t₂ tk₂ => ?_) (by rw [sizeLine_eq]; omega))) (hx := n7) (hk := hk)))
        refine Γ.cCallT1 F₁ str_boot (c_lcl Λ₁.N (.tail _ (.head _)) hoC hmx2 (PySem.P.str_of_int (natlog (by omega)) (PyProof.Rows.add_str (fun t₃ tk₃ => ?_) (fits_num (by omega) (by rw [PySem.Str.length_append]; omega)))) n2 hk) (hx := n4) (hk := hk)
        refine ⟨(ud, uo) :: R, ⟨rfl, rfl, rfl⟩, F₁, Λ₁, (fun _ h => nomatch h), rfl, ?_⟩
        rw [recN_succ]
        exact strs_snoc hys
      · rintro Dl s₂ ys _ ⟨rfl, hys⟩ hex e₂ F₂ Λ₂
        have hyl : ys.length = n := by rw [hys.length]; unfold recN; rw [List.length_map, List.length_range]
        refine tupOf_l F₂ Λ₂ (.head _) (by omega) fun B s₃ e₃ F₃ Λ₃ => ?_
        have hin : ∀ {p}, p ∈ R → p ∈ (B, tupOf ys) :: (Dl, lst ys) :: (ud, uo) :: R := fun h => .tail _ (.tail _ (.tail _ h))
        refine spliced_more (wpAny_Compare1 (Γ.cel Λ₃.N hcn (hin hmn) hdn (Γ.attr F₃ Λ₃.N hx (hin hmx) (hin hmd) D.2.2.2.1 (in_list_strs (s := { s₃ with toks := _ }) ⟨_, Λ₃.get (hin hms), rfl, _, rfl⟩ hS (spliced_none (newTup_l (s := { s₃ with toks := _ }) F₃ Λ₃ (by show 3 ≤ 1000; decide) fun T s₄ e₄ F₄ Λ₄ _ => ?_))))))
        refine Γ.cel Λ₄.N hcu (.tail _ (hin hmu)) hdu (Γ.cel Λ₄.N hcn (.tail _ (hin hmn)) hdn ?_)
        refine put_l F₄ (Λ₄.pulls [3]) hu (by omega) fun uo' s₅ e₅ F₅ Λ₅ hu' => ?_
        rw [stored_new hnk] at hu'
        exact wpAny_execs_nil (ret uo' _ [(T, _), (B, tupOf ys), (Dl, lst ys)] s₅ (e₂.trans (e₃.trans (e₄.trans e₅))) F₅ Λ₅ hu' (.inr ⟨rfl, _, rfl, T, tn, B, ys, rfl, .head _, .tail _ (.head _), hys⟩))
end
end Mine
end
section
open PySem PySem.W PySem.Calls PyProof.Rows
namespace Mine
section
variable {w : World} {A : Around} {E : Value → Shared → Prop} {s : Shared} {h₀ : Heap} {L D : Addr} {m : Str → Option Value} {R l : List (Addr × Obj)}
/-- the names of files, as the text holds them -/
theorem files_K (P : Params) : ∃ vs, tupK' (Mine.heap39 P) 218 vs ∧ StrsAre vs FILES := strTup_of (by kernel_rfl)
theorem tupK_at {K : Frag} {d : Addr} {vs : List Value} {h : Heap} (F : Fr h₀ L h m) (X : K.In h₀) (hk : tupK' K d vs) : IsTup h d vs.toArray := by
  obtain ⟨dd, n, sl, hl⟩ := hk
  exact ⟨_, F.keep _ _ (X _ _ hl), rfl, n, rfl⟩
/-- list(a tuple) -/
theorem listT_l {Q : Value → Shared → Prop} {d : Addr} {vs : List Value} (F : Fr h₀ L s.heap m) (Λ : Led h₀ L s.heap l) (ht : IsTup s.heap d vs.toArray) (hz : vs.length ≤ 1000)
    (ret : ∀ B n s', Same s s' → Fr h₀ L s'.heap m → Led h₀ L s'.heap ((B, W.listOf vs.toArray n) :: l) → Q (.ref B) s') : wpAny (model PG w) A (call (.type "list") [.ref d]) Q E s :=
  list_copyKT F Λ.N ht (fun D c h' F' N' l1 => ret D c _ ⟨rfl, rfl, rfl⟩ F' (Λ.cons N' l1)) (by rw [sizeLine_eq]; simp; omega)
/-- sorted(a tuple of strs) -/
theorem sortedT_l {Q : Value → Shared → Prop} {d : Addr} {vs : List Value} {ss : List Str} (F : Fr h₀ L s.heap m) (Λ : Led h₀ L s.heap l) (ht : IsTup s.heap d vs.toArray) (hS : StrsAre vs ss) (h64 : vs.length < 64)
    (ret : ∀ B vs' ss' n' s', Same s s' → Fr h₀ L s'.heap m → Led h₀ L s'.heap ((B, W.listOf vs'.toArray n') :: l) → StrsAre vs' ss' → ss'.Perm ss → sortedS ss' = true → Q (.ref B) s') :
    wpAny (model PG w) A (call (.builtin "sorted") [.ref d]) Q E s := by
  obtain ⟨o, ho, hc, n, hd⟩ := ht
  refine call_function_entry kind_sorted plain_sorted entry_sorted (args_sorted1 _) ?_
  unfold Builtin.«sorted»
  refine wpAny_bind (m := checkCount "sorted" 1 1 _) (wpAny_pure ?_)
  refine wpAny_bind (wpAny_collect_seq (A := A.in1) d (.inr rfl) ho hc hd (fun h' hk => ?_) (by rw [sizeLine_eq]; simp; omega))
  rw [show vs.toArray.toList = vs by simp]
  have F1 := F.keeps hk
  have Λ1 : Led h₀ L h' l := ⟨fun p hp => ⟨hk _ _ (Λ.N p hp).1, (Λ.N p hp).2⟩, Λ.D⟩
  refine wpAny_bind (newList_l (s := { s with heap := h' }) F1 Λ1 (by omega) fun B s₁ e₁ F₁ Λ₁ _ => ?_)
  refine wpAny_bind (wpAny_holding (sort_l F₁ Λ₁ hS h64 fun vs' ss' n' s₂ e₂ F₂ Λ₂ h1 h2 h3 => ?_))
  exact wpAny_pure ⟨_, rfl, ret B vs' ss' n' s₂ (Same.trans (s' := { s with heap := h' }) ⟨rfl, rfl, rfl⟩ (e₁.trans e₂)) F₂ Λ₂ h1 h2 h3⟩
/-- t[::-1], t a tuple of five -/
theorem revT_l {Q : Value → Shared → Prop} {value slice : PySem.Expr} {d : Addr} {v1 v2 v3 v4 v5 : Value} {u : Tok} {ops : List Value} (F : Fr h₀ L s.heap m) (Λ : Led h₀ L s.heap l) (ht : IsTup s.heap d [v1, v2, v3, v4, v5].toArray)
    (ret : ∀ D' s', Same s s' → Fr h₀ L s'.heap m → Led h₀ L s'.heap ((D', tupOf [v5, v4, v3, v2, v1]) :: l) → Q (.ref D') s')
    (hs : subscripted slice false (.ref d) (.ref s.heap.objs.size) = operate ops (getItem (.ref d) (.ref s.heap.objs.size))) :
    wpAny (model PG w) A (subscriptTail value slice (.ref d) (.ref s.heap.objs.size)) Q E { s with heap := s.heap.push { cls := .type "slice", data := .fields #[.none, .none, .int (-1) u] } } := by
  have ht' : IsTup (s.heap.push { cls := .type "slice", data := .fields #[.none, .none, .int (-1) u] }) d [v1, v2, v3, v4, v5].toArray := ht.keeps fun _ _ e => Heap.get?_push_of_some _ e
  have N1 := News.push (F.push { cls := .type "slice", data := .fields #[.none, .none, .int (-1) u] }) (Λ.N.grown fun _ _ e => Heap.get?_push_of_some _ e) { cls := .type "tuple", data := .seq [v5, v4, v3, v2, v1].toArray }
  have key : Q (.ref (s.heap.push { cls := .type "slice", data := .fields #[.none, .none, .int (-1) u] }).objs.size) { s with heap := (s.heap.push { cls := .type "slice", data := .fields #[.none, .none, .int (-1) u] }).push { cls := .type "tuple", data := .seq [v5, v4, v3, v2, v1].toArray } } := by
    refine ret _ _ ⟨rfl, rfl, rfl⟩ ((F.push _).push _) (Λ.cons N1 fun p hp => ?_)
    rw [Heap.size_push]
    exact Nat.lt_succ_of_lt (Heap.lt_size (Λ.N p hp).1)
  refine tail_any (s := { s with heap := s.heap.push { cls := .type "slice", data := .fields #[.none, .none, .int (-1) u] } }) ht'.typeIs slot_tuple_getitem.lookup ?_ hs
  have hsl := Heap.IsSliceOf.new s.heap .none .none (.int (-1) u)
  obtain ⟨os, hos, hcs, hds⟩ := id hsl
  have hTs : Shared.TypeIs { s with heap := s.heap.push { cls := .type "slice", data := .fields #[.none, .none, .int (-1) u] } } (.ref s.heap.objs.size) "slice" := ⟨os, hos, hcs⟩
  unfold getItem
  try with_reducible refine wpAny_holding ?_
  first | refine wpAny_bind (wpAny_pure ?_) | skip
  refine wpAny_bind (wpAny_sequenceKey (s := { s with heap := s.heap.push { cls := .type "slice", data := .fields #[.none, .none, .int (-1) u] } }) ht'.typeIs (by decide) ?_)
  refine wpAny_bind (wpAny_callSpecial?_slot (name := Str.ofString "__getitem__") ht'.typeIs slot_tuple_getitem
    (wpAny_call_entry slot_tuple_getitem ht'.typeIs entry_tuple_getitem ?_ (args_tuple_getitem _ _)))
  show wpAny _ _ (Builtin.Tuple.tupleItemsOf (.ref d) >>= _) _ _ _
  refine wpAny_bind (tupleItemsOf_ ht' ?_)
  refine wpAny_bind (wpAny_typeOf hTs ?_)
  rw [if_pos (by decide)]
  refine wpAny_bind ?_
  · unfold Builtin.Slice.sliceApplied Builtin.Slice.sliceFields
    refine wpAny_bind (wpAny_bind (wpAny_field hos hds (x := .none) rfl (wpAny_bind (wpAny_field hos hds (x := .none) rfl (wpAny_bind (wpAny_field hos hds (x := .int (-1) u) rfl (wpAny_pure ?_)))))))
    refine wpAny_bind (slicePart_int ?_)
    show wpAny _ _ (if ((-1 : Int) == 0) = true then _ else _) _ _ _
    rw [if_neg (by decide)]
    refine wpAny_bind (slicePart_none (wpAny_bind (slicePart_none (wpAny_bind (wpAny_pure ?_)))))
    refine wpAny_pure ?_
    have hdrop : sizeOk (.seq [v5, v4, v3, v2, v1].toArray) := by show 5 ≤ sizeLine; rw [sizeLine_eq]; omega
    have hpl : Builtin.Slice.slicePlaces 4 (-1) (-1) = 5 := by decide +kernel
    show wpAny _ _ (if ((4 : Int) == 0 && (-1 : Int) == 1 && Builtin.Slice.slicePlaces 4 (-1) (-1) == 5) = true then _ else _) _ _ _
    rw [if_neg (by decide)]
    show wpAny _ _ (Builtin.Tuple.tupleExact ((List.range (Builtin.Slice.slicePlaces 4 (-1) (-1))).filterMap fun (k : Nat) => [v1, v2, v3, v4, v5].toArray[((4 : Int) + (k : Int) * (-1)).toNat]?).toArray >>= _) _ _ _
    rw [hpl, show ((List.range 5).filterMap fun (k : Nat) => [v1, v2, v3, v4, v5].toArray[((4 : Int) + (k : Int) * (-1)).toNat]?) = [v5, v4, v3, v2, v1] by rfl]
    first
      | exact wpAny_bind (m := Builtin.Tuple.tupleExact _) (wpAny_newObj_type (wpAny_pure ⟨_, rfl, wpAny_pure key⟩) hdrop)
      | exact wpAny_bind (m := Builtin.Tuple.tupleExact _) (wpAny_newObj_type (wpAny_bind (wpAny_pure (wpAny_pure ⟨_, rfl, wpAny_pure key⟩))) hdrop)
      | exact wpAny_bind (wpAny_bind (m := Builtin.Tuple.tupleExact _) (wpAny_newObj_type (wpAny_pure (wpAny_pure ⟨_, rfl, wpAny_pure key⟩)) hdrop))
      | exact wpAny_bind (wpAny_bind (m := Builtin.Tuple.tupleExact _) (wpAny_newObj_type (wpAny_pure ⟨_, rfl, wpAny_pure key⟩) hdrop))
/-- two lists of the same strs -/
theorem eq_strs {Q : Value → Shared → Prop} {a b : Addr} {vs us : List Value} {zs : List Str} {n n' : Nat} (Λ : Led h₀ L s.heap l) (ha : (a, W.listOf vs.toArray n) ∈ l) (hb : (b, W.listOf us.toArray n') ∈ l) (h1 : StrsAre vs zs) (h2 : StrsAre us zs) (hok : zs.all PyData.strOk = true) (hu : A.units + 64 < cLine)
    (h : Q (.bool true) s) : wpAny (model PG w) A (compareOp .Eq (.ref a) (.ref b)) Q E s := by
  obtain ⟨as, x⟩ := reads_strs (h := s.heap) h1
  obtain ⟨bs, y⟩ := reads_strs (h := s.heap) h2
  have hl : (PyData.list (zs.map PyData.str)).canLay0 = true := by simp only [PyData.canLay0, strs_lay hok]
  have hs : SeqAt.shaped (.list (zs.map PyData.str)) = true := by
    unfold SeqAt.shaped
    rw [hl, Bool.true_and]
    refine decide_eq_true ?_
    simp only [PyData.depth, strs_dep]
    decide
  exact eq_dataH (reads_list_at (Λ.get ha) rfl rfl (by simpa using x)) (reads_list_at (Λ.get hb) rfl rfl (by simpa using y)) hs hs hu (by rw [SeqAt.eqv_refl _ hl]; exact h)
end
end Mine
end
section
open PySem PySem.W PySem.Calls PyProof.Rows
namespace Mine
def lawStmt (n : Nat) : Stmt := nth (bodyOf (topStmt 23)) n
abbrev lawCl (cn cu cf ct : Addr) : List (Str × Addr) := [(Str.ofString "name", cn), (Str.ofString "dues", cu), (Str.ofString "found", cf), (Str.ofString "take", ct)]
/-- which names are selected, described, due, and whether they part -/
def Parts (ns S D U : List Str) (b : Bool) : Prop :=
  (∀ k ∈ S, k ∈ ns) ∧ (∀ k ∈ D, k ∈ ns) ∧ (∀ k ∈ U, k ∈ ns) ∧ S.length ≤ ns.length ∧ D.length ≤ ns.length ∧ U.length ≤ ns.length ∧ (b = false ↔ ∀ k, k ∈ S ↔ k ∈ D) ∧ (b = false → U = S)
def grow (b : Bool) (nm : Str) (l : List Str) : List Str := if b then l ++ [nm] else l
theorem mem_grow {b : Bool} {nm k : Str} {l : List Str} : k ∈ grow b nm l ↔ k ∈ l ∨ (b = true ∧ k = nm) := by
  cases b <;> simp [grow]
theorem len_grow (b : Bool) (nm : Str) (l : List Str) : (grow b nm l).length ≤ l.length + 1 := by
  cases b <;> simp [grow]
theorem Parts.step {ns S D U : List Str} {b : Bool} {nm : Str} (h : Parts ns S D U b) (hn : nm ∉ ns) (b1 b2 : Bool) : Parts (ns ++ [nm]) (grow b1 nm S) (grow b2 nm D) (grow (b1 && b2) nm U) (b || b1 != b2) := by
  obtain ⟨h1, h2, h3, h4, h5, h6, h7, h8⟩ := h
  have sub : ∀ {c : Bool} {l : List Str}, (∀ k ∈ l, k ∈ ns) → ∀ k ∈ grow c nm l, k ∈ ns ++ [nm] := fun h k hk => by
    rcases mem_grow.mp hk with hk | ⟨_, rfl⟩
    · exact List.mem_append_left _ (h k hk)
    · exact List.mem_append_right _ (.head _)
  have l1 := len_grow b1 nm S
  have l2 := len_grow b2 nm D
  have l3 := len_grow (b1 && b2) nm U
  refine ⟨sub h1, sub h2, sub h3, ?_, ?_, ?_, ?_, ?_⟩
  · rw [List.length_append]; exact Nat.le_trans l1 (Nat.succ_le_succ h4)
  · rw [List.length_append]; exact Nat.le_trans l2 (Nat.succ_le_succ h5)
  · rw [List.length_append]; exact Nat.le_trans l3 (Nat.succ_le_succ h6)
  · have e1 : ∀ k, k ∈ S → k ≠ nm := fun k hk e => hn (e ▸ h1 k hk)
    have e2 : ∀ k, k ∈ D → k ≠ nm := fun k hk e => hn (e ▸ h2 k hk)
    constructor
    · intro h k
      rw [Bool.or_eq_false_iff] at h
      have hb : b1 = b2 := by have := h.2; revert this; cases b1 <;> cases b2 <;> decide
      rw [mem_grow, mem_grow, (h7.mp h.1) k, hb]
    · intro h
      rw [Bool.or_eq_false_iff]
      have hb : b1 = b2 := by
        have := h nm
        rw [mem_grow, mem_grow] at this
        have n1 : nm ∉ S := fun m => e1 _ m rfl
        have n2 : nm ∉ D := fun m => e2 _ m rfl
        cases b1 <;> cases b2 <;> simp_all
      subst hb
      refine ⟨h7.mpr fun k => ?_, by cases b1 <;> rfl⟩
      have := h k
      rw [mem_grow, mem_grow] at this
      constructor
      · intro hk
        rcases this.mp (.inl hk) with hk' | ⟨_, e⟩
        · exact hk'
        · exact absurd e (e1 k hk)
      · intro hk
        rcases this.mpr (.inl hk) with hk' | ⟨_, e⟩
        · exact hk'
        · exact absurd e (e2 k hk)
  · intro h
    rw [Bool.or_eq_false_iff] at h
    have hb : b1 = b2 := by have := h.2; revert this; cases b1 <;> cases b2 <;> decide
    subst hb
    rw [Bool.and_self, h8 h.1]
theorem lookup_left {α : Type} {k : Str} {l r : List (Str × α)} (h : k ∈ l.map (·.1)) : (l ++ r).lookup k = l.lookup k := by
  induction l with
  | nil => cases h
  | cons q l ih =>
    rw [List.cons_append, List.lookup_cons, List.lookup_cons]
    cases e : k == q.1 with
    | true => rfl
    | false =>
      rcases List.mem_cons.mp h with rfl | h
      · rw [beq_self_eq_true] at e; cases e
      · exact ih h
theorem lookup_right {α : Type} {k : Str} {v : α} {l : List (Str × α)} (h : k ∉ l.map (·.1)) : (l ++ [(k, v)]).lookup k = some v := by
  induction l with
  | nil => rw [List.nil_append, List.lookup_cons, beq_self_eq_true]
  | cons q l ih =>
    rw [List.cons_append, List.lookup_cons]
    rw [List.map_cons, List.mem_cons, not_or] at h
    have : (k == q.1) = false := by simpa using h.1
    rw [this]
    exact ih h.2
theorem any_grow {k nm : Str} {l l' : List Str} (hk : k ≠ nm) (h : l' = l ∨ l' = l ++ [nm]) : l'.any (· == k) = l.any (· == k) := by
  rcases h with rfl | rfl
  · rfl
  · rw [List.any_append]
    have : (nm == k) = false := by simpa using fun e => hk e.symm
    simp [this]
theorem FilesIn.snoc {P : Params} {nms : List Str} {R : List (Addr × Obj)} {k : Str} {ts : List Tr} {a : Addr} {n : Nat} (ha : (a, W.listOf (refsT ts).toArray n) ∈ R) (hT : TreesIn P nms R ts) (hz : ts.length ≤ 2) :
    ∀ {kvs : List (Str × Value)} {fts : List (Str × List Tr)}, FilesIn P nms R kvs fts → FilesIn P nms R (kvs ++ [(k, .ref a)]) (fts ++ [(k, ts)])
  | [], [], _ => ⟨rfl, ⟨a, n, rfl, ha, hT, hz⟩, trivial⟩
  | (_, _) :: _, (_, _) :: _, ⟨e, h, g⟩ => ⟨e, h, g.snoc ha hT hz⟩
theorem perm_q' {α : Type} (a q b d : List α) : (a ++ (q ++ (b ++ d))).Perm (b ++ (a ++ (q ++ d))) :=
  ((List.perm_append_comm_assoc q b d).append_left a).trans (List.perm_append_comm_assoc a b (q ++ d))
/-- what stands at a turn of the law's loop -/
def JL (w : World) (pl fl fd sl sd ud cn : Addr) (names fs0 : List Str) (k0 : Int) (f0 : Nat) (R0 : List (Addr × Obj)) (ks : List (Str × Value)) (i : Nat) (m : Str → Option Value) (l : List (Addr × Obj)) : Prop :=
  ∃ k t fvs nf o svs nsv so uo oN v0 sps T, l = (pl, W.listOf [Value.int k t].toArray 0) :: (fl, W.listOf fvs.toArray nf) :: (fd, o) :: (sl, W.listOf svs.toArray nsv) :: (sd, so) :: (ud, uo) :: (cn, oN) :: (spE w.params sps ++ (T ++ R0)) ∧
    oN.data = .cell v0 ∧ k0 ≤ k ∧ k ≤ k0 + 37 * i ∧ fvs.length ≤ f0 + 16 * i ∧ svs.length ≤ i ∧ IsD w so (sps.map Sp.kv) ∧ (∀ sp ∈ sps, SpIn T sp) ∧
    ∃ fts sos kvs dvs b, StrsAre fvs (fs0 ++ fts.flatMap fun f => f.2.flatMap fun t => t.2.2) ∧ StrsAre svs sos ∧ IsD w o kvs ∧ FilesIn w.params NAMES T kvs fts ∧ IsD w uo dvs ∧
      (∀ q ∈ dvs, q.1 ∈ fts.map (·.1) ∧ RowIn T q.2 (rowOf fts sos q.1)) ∧ (∀ q ∈ fts, q.2.length ≤ 2 ∧ q.2.map (·.2.1) = recN q.1 q.2.length) ∧
      Parts (names.take i) (sps.map Sp.name) (fts.map (·.1)) (dvs.map (·.1)) b ∧ Has ((Str.ofString "is_wrong", .bool b) :: ks) m
section
variable {w : World} {d : Nat} {A : Around} {env : Env} {L : Addr} {h₀ : Heap} {m : Str → Option Value} {s : Shared} {E : Value → Shared → Prop}
set_option maxHeartbeats 4000000 in
theorem loop_s {Q : Flow → Shared → Prop} {pl fl fd sl sd ud cn cu cf ct tk x dx wl ll nl : Addr} {oN oU oF oT o so uo : Obj} {v0 : Option Value} {R0 : List (Addr × Obj)} {ns : List Int} {k0 : Int} {t0 tw : Tok} {wy : Int} {fvs nvs : List Value} {nf nn : Nat} {fs0 names : List Str} {vs : List (Str × Value)} {tf : Nat → Tok}
    (Γ : Fn w d lawScope (lawCl cn cu cf ct) A env L h₀) (hd' : d < 600) (F : Fr h₀ L s.heap m)
    (Λ : Led h₀ L s.heap ((pl, W.listOf [Value.int k0 t0].toArray 0) :: (fl, W.listOf fvs.toArray nf) :: (fd, o) :: (sl, W.listOf #[] 0) :: (sd, so) :: (ud, uo) :: (cn, oN) :: R0))
    (hmt : (ct, oT) ∈ R0) (hdt : oT.data = .cell (some (.ref tk))) (hmf : (cf, oF) ∈ R0) (hdf : oF.data = .cell (some (.ref fl))) (hmu : (cu, oU) ∈ R0) (hdu : oU.data = .cell (some (.ref ud))) (hoN : oN.data = .cell v0)
    (hmx : (x, instObj 159 dx) ∈ R0) (hmd : (dx, dictOf (entsD w.params tf vs) 6) ∈ R0) (D : DataRec vs wl ll fd sl) (K : TakeIn R0 tk pl ns) (hk0 : 0 ≤ k0) (hk1 : k0 ≤ 100) (hf0 : fvs.length ≤ 100) (hfs : StrsAre fvs fs0)
    (ho : IsD w o []) (hso : IsD w so []) (huo : IsD w uo []) (hnl : (nl, W.listOf nvs.toArray nn) ∈ R0) (hN : StrsAre nvs names) (hn5 : names.length = 5) (hnd : names.Nodup) (hnz : ∀ z ∈ names, z.length ≤ 40)
    (H : Has [(Str.ofString "is_wrong", .bool false), (Str.ofString "specs", .ref sd), (Str.ofString "data", .ref x), (Str.ofString "ways", .int wy tw), (Str.ofString "names", .ref nl)] m) (hE : PassesOwn (model PG w) A env E)
    (ret : ∀ s' m' l', JL w pl fl fd sl sd ud cn names fs0 k0 fvs.length R0 [(Str.ofString "specs", .ref sd), (Str.ofString "data", .ref x), (Str.ofString "ways", .int wy tw), (Str.ofString "names", .ref nl)] 5 m' l' → Same s s' → Fr h₀ L s'.heap m' → Led h₀ L s'.heap l' → Q .next s') :
    wpAny (model PG w) A (exec (lawStmt 6) env) Q E s := by
  have hnl5 : nvs.length = 5 := by rw [hN.length, hn5]
  have T0 : ∀ {a : List (Addr × Obj)} {p}, p ∈ R0 → p ∈ a ++ R0 := fun h => List.mem_append_right _ h
  refine Γ.forC F Λ (H.get) (D := nl) (vs := nvs) (n := nn) (.tail _ (.tail _ (.tail _ (.tail _ (.tail _ (.tail _ (.tail _ hnl))))))) (JL w pl fl fd sl sd ud cn names fs0 k0 fvs.length R0 [(Str.ofString "specs", .ref sd), (Str.ofString "data", .ref x), (Str.ofString "ways", .int wy tw), (Str.ofString "names", .ref nl)])
    ⟨k0, t0, fvs, nf, o, [], 0, so, uo, oN, v0, [], [], rfl, hoN, Int.le_refl _, by omega, by omega, Nat.le_refl _, hso, (fun _ h => nomatch h), [], [], [], [], false, by rw [List.flatMap_nil, List.append_nil]; exact hfs, .nil, ho, trivial, huo, (fun _ h => nomatch h), (fun _ h => nomatch h), ⟨(fun _ h => nomatch h), (fun _ h => nomatch h), (fun _ h => nomatch h), Nat.zero_le _, Nat.zero_le _, Nat.zero_le _, ⟨fun _ _ => Iff.rfl, fun _ => rfl⟩, fun _ => rfl⟩, H⟩ ?_ (fun s' m' l' h e F' Λ' => ret s' m' l' (hnl5 ▸ h) e F' Λ') hE
  clear F Λ H hoN ho hso huo
  rintro i v m₁ _ s₁ I oI hi hv ⟨k, t, fvs', nf, o, svs, nsv, so, uo, oN, v0, sps, T, rfl, hoN, hk, hk', hf', hsv', hds, hsp, fts, sos, kvs, dvs, b, hS, hSS, hdo, hF, hdd, hrow, hrec, hP, Ag⟩ hmem F₁ Λ₁
  have hi5 : i < names.length := by omega
  obtain ⟨tn, htn⟩ := strs_get hN (List.getElem?_eq_getElem hi5)
  obtain rfl : v = .str names[i] tn := Option.some.inj (hv.symm.trans htn)
  have hkt : names.take (i + 1) = names.take i ++ [names[i]] := by rw [List.take_add_one, List.getElem?_eq_getElem hi5]; rfl
  have hnew : names[i] ∉ names.take i := by
    intro hm
    have h1 : (names.take (i + 1)).Nodup := hnd.sublist (List.take_sublist _ _)
    rw [hkt, List.nodup_append] at h1
    exact h1.2.2 _ hm _ (.head _) rfl
  have hnm := hnz _ (List.getElem_mem hi5)
  generalize names[i] = nm at hkt hnew hnm hv htn
  obtain ⟨p1, p2, p3, p4, p5, p6, p7, p8⟩ := id hP
  have hti : (names.take i).length = i := by rw [List.length_take]; omega
  have hsl : sps.length ≤ 5 := by rw [hti, List.length_map] at p4; omega
  have hfl : fts.length ≤ 5 := by rw [hti, List.length_map] at p5; omega
  have hdl : dvs.length ≤ 5 := by rw [hti, List.length_map] at p6; omega
  have hkn := hF.names
  have hkl : kvs.length ≤ 5 := by have := congrArg List.length hkn; rw [List.length_map, List.length_map] at this; omega
  have hsvl : svs.length ≤ 100 := by omega
  have hns : nm ∉ sps.map Sp.name := fun h => hnew (p1 _ h)
  have hnf : nm ∉ fts.map (·.1) := fun h => hnew (p2 _ h)
  have hnk : nm ∉ kvs.map (·.1) := by rw [hkn]; exact hnf
  have hnv : nm ∉ dvs.map (·.1) := fun h => hnew (p3 _ h)
  -- name
  refine Γ.stC F₁ (Λ₁.pulls [7]) rfl hoN fun s₂ oN e₂ F₂ Λ₂ hcn => ?_
  -- is_selected, is_described
  have Λ₂ : Led h₀ L s₂.heap ((pl, W.listOf [Value.int k t].toArray 0) :: (cn, oN) :: (I, oI) :: (fl, W.listOf fvs'.toArray nf) :: (fd, o) :: (sl, W.listOf svs.toArray nsv) :: (sd, so) :: (ud, uo) :: (spE w.params sps ++ (T ++ R0))) := Λ₂.pulls [2]
  have hin : ∀ {p}, p ∈ R0 → p ∈ (cn, oN) :: (I, oI) :: (fl, W.listOf fvs'.toArray nf) :: (fd, o) :: (sl, W.listOf svs.toArray nsv) :: (sd, so) :: (ud, uo) :: (spE w.params sps ++ (T ++ R0)) :=
    fun h => .tail _ (.tail _ (.tail _ (.tail _ (.tail _ (.tail _ (.tail _ (List.mem_append_right _ (List.mem_append_right _ h))))))))
  refine wpAny_execs_cons (draw_s Γ F₂ (Ag.get) rfl (hin hmt) hdt Λ₂ (K.mono fun p h => hin h) (by omega) (by omega) fun b1 b2 t₁ R1 s₃ ma mb e₃ F₃ pa pb Λ₃ => ?_)
  have H₃ := pb.has (pa.has Ag)
  have Λ₃ : Led h₀ L s₃.heap ((sd, so) :: (spE w.params sps ++ ([(pl, W.listOf [Value.int (k + 3) t₁].toArray 0), (cn, oN), (I, oI), (fl, W.listOf fvs'.toArray nf), (fd, o), (sl, W.listOf svs.toArray nsv), (ud, uo)] ++ ((R1 ++ T) ++ R0)))) := by
    rw [List.append_assoc R1 T R0]
    exact Λ₃.perm (((perm_q R1 [(cn, oN), (I, oI), (fl, W.listOf fvs'.toArray nf), (fd, o), (sl, W.listOf svs.toArray nsv), (sd, so), (ud, uo)] (spE w.params sps) (T ++ R0)).cons _).trans ((pulls_perm [6] _).trans ((List.perm_append_comm_assoc [(pl, W.listOf [Value.int (k + 3) t₁].toArray 0), (cn, oN), (I, oI), (fl, W.listOf fvs'.toArray nf), (fd, o), (sl, W.listOf svs.toArray nsv), (ud, uo)] (spE w.params sps) (R1 ++ (T ++ R0))).cons _)))
  -- if is_selected
  refine wpAny_execs_cons (spec_s Γ F₃ (H₃.get) (H₃.get) rfl (.tail _ (.head _)) hcn Λ₃ hds hns hsl fun so' sps' R2 s₄ e₄ F₄ Λ₄ hds' hor => ?_)
  have hsp' : ∀ sp ∈ sps', SpIn (R2 ++ (R1 ++ T)) sp := fun sp h => by
    have old : ∀ sp ∈ sps, SpIn (R2 ++ (R1 ++ T)) sp := fun sp h => ⟨List.mem_append_right _ (List.mem_append_right _ (hsp sp h).1), (hsp sp h).2⟩
    rcases hor with ⟨_, rfl⟩ | ⟨_, sp', _, rfl, h2⟩
    · exact old sp h
    · rcases List.mem_append.mp h with h | h
      · exact old sp h
      · rw [List.mem_singleton.mp h]; exact ⟨List.mem_append_left _ h2.1, h2.2⟩
  have hsn' : sps'.map Sp.name = grow b1 nm (sps.map Sp.name) := by
    rcases hor with ⟨rfl, rfl⟩ | ⟨rfl, sp, rfl, rfl, _⟩
    · rfl
    · show _ = _ ++ [_]
      rw [List.map_append]; rfl
  clear hor hsp
  have Λ₅ : Led h₀ L s₄.heap ((pl, W.listOf [Value.int (k + 3) t₁].toArray 0) :: (fl, W.listOf fvs'.toArray nf) :: (fd, o) :: (sl, W.listOf svs.toArray nsv) :: (sd, so') :: (cn, oN) :: (I, oI) :: (ud, uo) :: (spE w.params sps' ++ ((R2 ++ (R1 ++ T)) ++ R0))) := by
    rw [List.append_assoc R2]
    exact Λ₄.perm (((perm_q' (spE w.params sps') R2 [(pl, W.listOf [Value.int (k + 3) t₁].toArray 0), (cn, oN), (I, oI), (fl, W.listOf fvs'.toArray nf), (fd, o), (sl, W.listOf svs.toArray nsv), (ud, uo)] ((R1 ++ T) ++ R0)).cons _).trans (pulls_perm [6, 6, 6, 4] _))
  generalize hT2 : R2 ++ (R1 ++ T) = T2 at Λ₅ hsp'
  have sub2 : ∀ p ∈ T, p ∈ T2 := fun p h => by rw [← hT2]; exact List.mem_append_right _ (List.mem_append_right _ h)
  clear Λ₁ Λ₂ Λ₃ Λ₄ hin
  -- if is_described
  have hin : ∀ {p}, p ∈ R0 → p ∈ (sd, so') :: (cn, oN) :: (I, oI) :: (ud, uo) :: (spE w.params sps' ++ (T2 ++ R0)) :=
    fun h => .tail _ (.tail _ (.tail _ (.tail _ (List.mem_append_right _ (List.mem_append_right _ h)))))
  refine wpAny_execs_cons (file_s Γ (by omega) F₄ rfl (hin hmt) hdt (hin hmf) hdf rfl (.tail _ (.head _)) hcn rfl rfl rfl rfl (by kernel_rfl) rfl (H₃.get) (H₃.get) (hin hmx) (hin hmd) D Λ₅ (K.mono fun p h => hin h) (by omega) (by omega) hnm hS (by omega) hdo hnk hkl hSS hsvl ⟨_, rfl⟩ fun o' kvs' svs' sos' nsv' k' t' fvs'' nf' ts R3 s₅ e₅ F₅ Λ₆ hk1' hk2' hf'' hS' hSS' hdo' hor2 hor => ?_)
  have hfts : ∃ fts', FilesIn w.params NAMES (R3 ++ T2) kvs' fts' ∧ fts'.map (·.1) = grow b2 nm (fts.map (·.1)) ∧ StrsAre fvs'' (fs0 ++ fts'.flatMap fun f => f.2.flatMap fun t => t.2.2) ∧ (b2 = true → fts'.lookup nm = some ts) ∧ (∀ k ∈ fts.map (·.1), fts'.lookup k = fts.lookup k) ∧
      (∀ q ∈ fts', q.2.length ≤ 2 ∧ q.2.map (·.2.1) = recN q.1 q.2.length) ∧ ts.length ≤ 2 ∧ (b2 = true → ts.map (·.2.1) = recN nm ts.length) ∧ ∃ a na, b2 = true → valueAt kvs' nm = some (.ref a) ∧ (a, W.listOf (refsT ts).toArray na) ∈ R3 := by
    rcases hor with ⟨rfl, rfl, rfl, _⟩ | ⟨rfl, a, na, rfl, h1, h2, h3, h4⟩
    · refine ⟨fts, hF.mono fun p h => List.mem_append_right _ (sub2 p h), rfl, ?_, (fun e => nomatch e), fun _ _ => rfl, hrec, Nat.zero_le _, (fun e => nomatch e), 0, 0, fun e => nomatch e⟩
      rw [List.flatMap_nil, List.append_nil] at hS'
      exact hS'
    · refine ⟨fts ++ [(nm, ts)], (hF.mono fun p h => List.mem_append_right _ (sub2 p h)).snoc (List.mem_append_left _ h1) (h2.mono fun p h => List.mem_append_left _ h) h3, ?_, ?_, fun _ => lookup_right hnf, fun k hk => lookup_left hk, ?_, h3, fun _ => h4, a, na, fun _ => ⟨?_, h1⟩⟩
      · rw [List.map_append]; rfl
      · rw [List.flatMap_append, ← List.append_assoc]; simpa using hS'
      · intro q hq
        rcases List.mem_append.mp hq with hq | hq
        · exact hrec q hq
        · rw [List.mem_singleton.mp hq]; exact ⟨h3, h4⟩
      · refine valueAt_mem ?_ (List.mem_append_right _ (.head _))
        obtain ⟨_, _, _, _, _, _, h⟩ := hdo'
        exact h
  clear hor
  obtain ⟨fts', hF', hfn', hS3, hlk, hlo, hrec', htl, htn', a, na, hval⟩ := hfts
  have Λ₆ : Led h₀ L s₅.heap ((pl, W.listOf [Value.int k' t'].toArray 0) :: (fl, W.listOf fvs''.toArray nf') :: (fd, o') :: (sl, W.listOf svs'.toArray nsv') :: (sd, so') :: (cn, oN) :: (I, oI) :: (ud, uo) :: (spE w.params sps' ++ ((R3 ++ T2) ++ R0))) := by
    rw [List.append_assoc R3]
    exact Λ₆.perm ((perm_q R3 [(sd, so'), (cn, oN), (I, oI), (ud, uo)] (spE w.params sps') (T2 ++ R0)).append_left [_, _, _, _])
  have sub3 : ∀ p ∈ T2, p ∈ R3 ++ T2 := fun p h => List.mem_append_right _ h
  have hval' : b2 = true → valueAt kvs' nm = some (.ref a) ∧ (a, W.listOf (refsT ts).toArray na) ∈ R3 ++ T2 := fun e => ⟨(hval e).1, List.mem_append_left _ (hval e).2⟩
  generalize R3 ++ T2 = T3 at Λ₆ hF' sub3 hval'
  clear Λ₅ hin hval
  -- is_wrong
  refine wpAny_execs_cons (wrong_s Γ F₅ Λ₆ (H₃.get) (H₃.get) (H₃.get) fun s₆ m₆ e₆ F₆ pw Λ₇ => ?_)
  have H₆ := pw.has (x := Str.ofString "is_wrong") (ks := [(Str.ofString "is_described", .bool b2), (Str.ofString "is_selected", .bool b1), (Str.ofString "specs", .ref sd), (Str.ofString "data", .ref x), (Str.ofString "ways", .int wy tw), (Str.ofString "names", .ref nl)]) (H₃.sub (by simp))
  -- dues
  have hin : ∀ {p}, p ∈ T3 ++ R0 → p ∈ (pl, W.listOf [Value.int k' t'].toArray 0) :: (fl, W.listOf fvs''.toArray nf') :: (fd, o') :: (sl, W.listOf svs'.toArray nsv') :: (sd, so') :: (cn, oN) :: (I, oI) :: (spE w.params sps' ++ (T3 ++ R0)) :=
    fun h => .tail _ (.tail _ (.tail _ (.tail _ (.tail _ (.tail _ (.tail _ (List.mem_append_right _ h)))))))
  have hru : (refsT ts).length = ts.length := List.length_map _
  refine wpAny_execs_cons (due_s Γ F₆ rfl (.tail _ (.tail _ (.tail _ (.tail _ (.tail _ (.head _)))))) hcn rfl (hin (List.mem_append_right _ hmu)) hdu rfl rfl (by kernel_rfl) rfl (H₆.get) (H₆.get) (H₆.get) (hin (List.mem_append_right _ hmx)) (hin (List.mem_append_right _ hmd)) D (Λ₇.pulls [7]) (.tail _ (.tail _ (.head _))) hdo' (fun e => ⟨(hval' e).1, hin (List.mem_append_left _ (hval' e).2)⟩) hru htl (.tail _ (.tail _ (.tail _ (.head _)))) hSS' hnm hdd hnv hdl
    fun uo' dvs' R4 s₇ e₇ F₇ Λ₈ hdd' hor3 => wpAny_execs_nil ?_)
  have Λ₉ : Led h₀ L s₇.heap ((I, oI) :: (pl, W.listOf [Value.int k' t'].toArray 0) :: (fl, W.listOf fvs''.toArray nf') :: (fd, o') :: (sl, W.listOf svs'.toArray nsv') :: (sd, so') :: (ud, uo') :: (cn, oN) :: (spE w.params sps' ++ ((R4 ++ T3) ++ R0))) := by
    rw [List.append_assoc R4]
    exact Λ₈.perm (((perm_q R4 [(pl, W.listOf [Value.int k' t'].toArray 0), (fl, W.listOf fvs''.toArray nf'), (fd, o'), (sl, W.listOf svs'.toArray nsv'), (sd, so'), (cn, oN), (I, oI)] (spE w.params sps') (T3 ++ R0)).cons _).trans (pulls_perm [6, 1, 6, 6, 6, 6, 6, 7] _))
  have hlen : svs'.length ≤ i + 1 := by
    have h1 := hSS'.length
    have h2 := hSS.length
    rcases hor2 with rfl | rfl
    · omega
    · rw [List.length_append, List.length_singleton] at h1; omega
  have hk3 : k' ≤ k0 + 37 * ((i + 1 : Nat) : Int) := by omega
  have hdn' : dvs'.map (·.1) = grow (b1 && b2) nm (dvs.map (·.1)) := by
    rcases hor3 with ⟨e, rfl⟩ | ⟨e, v, rfl, _⟩
    · rw [e]; rfl
    · rw [e, List.map_append]; rfl
  refine ⟨rfl, m₆, _, e₂.trans (e₃.trans (e₄.trans (e₅.trans (e₆.trans e₇)))), F₇, Λ₉, ?_, k', t', fvs'', nf', o', svs', nsv', so', uo', oN, _, sps', R4 ++ T3, rfl, hcn, by omega, hk3, by omega, hlen, hds', ?_, fts', sos', kvs', dvs', (b || b1 != b2), hS3, hSS', hdo', hF'.mono fun p h => List.mem_append_right _ h, hdd', ?_, hrec', ?_, H₆.sub ?_⟩
  · intro p hp
    rw [List.mem_singleton.mp hp]
    exact .tail _ (.tail _ (.tail _ (.tail _ (.tail _ (.tail _ (.tail _ (List.mem_append_right _ (List.mem_append_right _ hnl))))))))
  · exact fun sp h => ⟨List.mem_append_right _ (sub3 _ (hsp' sp h).1), (hsp' sp h).2⟩
  · have hold : ∀ q ∈ dvs, q.1 ∈ fts'.map (·.1) ∧ RowIn (R4 ++ T3) q.2 (rowOf fts' sos' q.1) := fun q hq => by
      obtain ⟨h1, h2⟩ := hrow q hq
      have hne : q.1 ≠ nm := fun e => hnf (e ▸ h1)
      refine ⟨by rw [hfn', mem_grow]; exact .inl h1, ?_⟩
      have e : rowOf fts' sos' q.1 = rowOf fts sos q.1 := by unfold rowOf; rw [hlo _ h1, any_grow hne hor2]
      rw [e]
      exact h2.mono fun p h => List.mem_append_right _ (sub3 p (sub2 p h))
    intro q hq
    rcases hor3 with ⟨_, rfl⟩ | ⟨e, v, rfl, hv⟩
    · exact hold q hq
    · rcases List.mem_append.mp hq with hq | hq
      · exact hold q hq
      · have e2 : b2 = true := by revert e; cases b1 <;> cases b2 <;> simp
        rw [List.mem_singleton.mp hq]
        refine ⟨by rw [hfn', mem_grow]; exact .inr ⟨e2, rfl⟩, ?_⟩
        have e : rowOf fts' sos' nm = (nm, recN nm ts.length, sos'.any (· == nm)) := by unfold rowOf; rw [hlk e2, Option.getD_some, htn' e2]
        rw [e]
        exact hv.mono fun p h => List.mem_append_left _ h
  · rw [hkt, hsn', hfn', hdn']
    exact hP.step hnew b1 b2
  · simp
end
end Mine
end
section
open PySem PySem.W PySem.Calls PyProof.Rows
namespace Mine
/-- sorted strs: one order -/
def leS (a b : Str) : Prop := Spec.ltCps b.cps.toList a.cps.toList = false
theorem cps_trans : ∀ {a b c : List Nat}, Spec.ltCps b a = false → Spec.ltCps c b = false → Spec.ltCps c a = false := by
  intro a b c h1 h2
  rw [ltCps_eq, decide_eq_false_iff_not, List.not_lt] at *
  exact List.le_trans h1 h2
theorem cps_anti {a b : List Nat} (h1 : Spec.ltCps b a = false) (h2 : Spec.ltCps a b = false) : a = b := by
  rw [ltCps_eq, decide_eq_false_iff_not, List.not_lt] at *
  exact List.le_antisymm h1 h2
theorem leS_anti {a b : Str} (h1 : leS a b) (h2 : leS b a) : a = b := by
  obtain ⟨⟨x⟩⟩ := a
  obtain ⟨⟨y⟩⟩ := b
  have : x = y := cps_anti h1 h2
  rw [this]
theorem rising_pw : ∀ {l : List Str} {p : Str}, risingS p l = true → (p :: l).Pairwise leS
  | [], _, _ => List.pairwise_singleton _ _
  | x :: r, p, h => by
    unfold risingS at h
    rw [Bool.and_eq_true, Bool.not_eq_true'] at h
    have ih := rising_pw h.2
    refine List.pairwise_cons.mpr ⟨fun y hy => ?_, ih⟩
    rcases List.mem_cons.mp hy with rfl | hy
    · exact h.1
    · exact cps_trans h.1 ((List.pairwise_cons.mp ih).1 y hy)
theorem sorted_pw : ∀ {l : List Str}, sortedS l = true → l.Pairwise leS
  | [], _ => .nil
  | _ :: _, h => rising_pw h
theorem one_order {a b : List Str} (h : a.Perm b) (ha : a.Pairwise leS) (hb : b.Pairwise leS) : a = b :=
  h.eq_of_pairwise (fun _ _ _ _ h1 h2 => leS_anti h1 h2) ha hb
theorem one_order_nd {a b : List Str} (h : ∀ z, z ∈ a ↔ z ∈ b) (na : a.Nodup) (nb : b.Nodup) (ha : a.Pairwise leS) (hb : b.Pairwise leS) : a = b :=
  one_order ((List.perm_ext_iff_of_nodup na nb).mpr fun {z} => h z) ha hb
section
variable {w : World} {d : Nat} {A : Around} {env : Env} {L : Addr} {h₀ : Heap} {m : Str → Option Value} {R l : List (Addr × Obj)} {s : Shared} {E : Value → Shared → Prop}
set_option maxHeartbeats 2000000 in
/-- due = None if is_wrong else [dues[name] for name in sorted(dues)] -/
theorem due_e {Q : Flow → Shared → Prop} {Rr : List (Addr × Obj)} {cn cu cf ct ud : Addr} {oU uo : Obj} {dvs : List (Str × Value)} {fts : List (Str × List Tr)} {sos : List Str} {b : Bool} (Γ : Fn w d lawScope (lawCl cn cu cf ct) A env L h₀) (F : Fr h₀ L s.heap m) (Λ : Led h₀ L s.heap l)
    (hb : m (Str.ofString "is_wrong") = some (.bool b)) (hmu : (cu, oU) ∈ l) (hdu : oU.data = .cell (some (.ref ud))) (hud : (ud, uo) ∈ l) (hdd : IsD w uo dvs) (lo : (ud == sysModules) = false) (hz : dvs.length ≤ 5) (hrow : ∀ q ∈ dvs, RowIn Rr q.2 (rowOf fts sos q.1))
    (ret : ∀ v s' m' Rn, Same s s' → Fr h₀ L s'.heap m' → Put (Str.ofString "due") v m m' → Led h₀ L s'.heap (Rn ++ l) → ((b = true ∧ v = .none) ∨ (b = false ∧ ∃ B vals n ss, v = .ref B ∧ (B, W.listOf vals.toArray n) ∈ Rn ∧ ss.Perm (dvs.map (·.1)) ∧ sortedS ss = true ∧ RowsIn Rr vals (ss.map (rowOf fts sos)))) → Q .next s') :
    wpAny (model PG w) A (exec (lawStmt 7) env) Q E s := by
  refine wpAny_Assign_Name (wpAny_IfExp (wpAny_isTrue_value (Γ.lcl F hb (wpAny_truthy_bool ?_))))
  cases b with
  | true => exact wpAny_Constant_none (Γ.st F Λ fun s' m' e F' p Λ' => ret .none s' m' [] e F' p Λ' (.inl ⟨rfl, rfl⟩))
  | false =>
    have hnd : (dvs.map (·.1)).Nodup := by obtain ⟨_, _, _, _, _, _, h⟩ := hdd; exact h
    refine Γ.compL (clc := [(Str.ofString "dues", cu)]) rfl (Γ.callB1 F sorted_boot (Γ.cel Λ.N rfl hmu hdu (sortedD_l Γ.handled F Λ hud hdd lo (by omega) fun SB vs' ss sn s₁ e₁ F₁ Λ₁ hS2 hp hso => ?_)))
    have hsl : vs'.length = ss.length := hS2.length
    have hsl2 : ss.length = dvs.length := by rw [hp.length_eq, List.length_map]
    refine ⟨SB, vs', sn, m, _, rfl, .head _, by omega, F₁, Λ₁, comps (fun i ys l₁ => l₁ = (SB, W.listOf vs'.toArray sn) :: l ∧ RowsIn Rr ys ((ss.take i).map (rowOf fts sos))) ⟨rfl, trivial⟩ ?_ ?_⟩
    · clear F Λ F₁ Λ₁
      rintro i v mc ys _ s₂ I oI C oC D E2 hi hP ⟨rfl, hrows⟩ hex e₂ F₁ hoC hmx Λ₁
      have hi2 : i < ss.length := by omega
      obtain ⟨t, ht⟩ := strs_get hS2 (List.getElem?_eq_getElem hi2)
      obtain rfl : v = .str ss[i] t := Option.some.inj (hP.symm.trans ht)
      have hk := hp.mem_iff.mp (List.getElem_mem hi2)
      have hkt : ss.take (i + 1) = ss.take i ++ [ss[i]] := by rw [List.take_add_one, List.getElem?_eq_getElem hi2]; rfl
      generalize ss[i] = k at hk hkt hmx hP ht
      obtain ⟨q, hq, rfl⟩ := List.mem_map.mp hk
      have hin : ∀ {p}, p ∈ l → p ∈ (I, oI) :: (C, oC) :: (D, lst ys) :: (SB, W.listOf vs'.toArray sn) :: l := fun h => .tail _ (.tail _ (.tail _ (.tail _ h)))
      refine Subscript_ (Γ.cFree Λ₁.N rfl (hin hmu) hdu (c_lcl Λ₁.N (.tail _ (.head _)) hoC hmx (get_l Λ₁ (hin hud) hdd (valueAt_mem hnd hq) ?_)))
      refine ⟨_, ⟨rfl, rfl, rfl⟩, F₁, Λ₁, hex, rfl, ?_⟩
      rw [hkt, List.map_append]
      exact hrows.snoc (hrow q hq)
    · rintro D s₂ ys _ ⟨rfl, hrows⟩ hex e₂ F₂ Λ₂
      rw [List.take_of_length_le (by omega)] at hrows
      refine Γ.st F₂ Λ₂ fun s₃ m₃ e₃ F₃ p₃ Λ₃ => ?_
      exact ret (.ref D) s₃ m₃ [(D, lst ys), (SB, _)] (e₁.trans (e₂.trans e₃)) F₃ p₃ Λ₃ (.inr ⟨rfl, D, ys, _, ss, rfl, .head _, hp, hso, hrows⟩)
end
end Mine
end
section
open PySem PySem.W PySem.Calls PyProof.Rows
namespace Mine
theorem rowOk_files {k : Str} {n : Nat} {c : Bool} (hk : k ∈ FILES) (hn : n ≤ 2) : rowOk (k, recN k n, c) = true := by
  have h : (FILES.all fun k => (List.range 3).all fun n => rowOk (k, recN k n, false)) = true := by decide +kernel
  have := List.all_eq_true.mp (List.all_eq_true.mp h k hk) n (List.mem_range.mpr (by omega))
  exact this
theorem mem_of_lookup {α : Type} {k : Str} {v : α} : ∀ {l : List (Str × α)}, l.lookup k = some v → (k, v) ∈ l
  | (a, u) :: r, h => by
    rw [List.lookup_cons] at h
    cases e : k == a with
    | true => rw [e] at h; rw [eq_of_beq e, ← Option.some.inj h]; exact .head _
    | false => rw [e] at h; exact .tail _ (mem_of_lookup h)
theorem rowOk_of {fts : List (Str × List Tr)} {sos : List Str} {k : Str} (hk : k ∈ FILES) (h : ∀ q ∈ fts, q.2.length ≤ 2 ∧ q.2.map (·.2.1) = recN q.1 q.2.length) : rowOk (rowOf fts sos k) = true := by
  unfold rowOf
  cases e : fts.lookup k with
  | none => exact rowOk_files (n := 0) hk (by decide)
  | some ts =>
    obtain ⟨h1, h2⟩ := h _ (mem_of_lookup e)
    rw [Option.getD_some, h2]
    exact rowOk_files hk h1
section
variable {w : World} {d : Nat} {A : Around} {env : Env} {L : Addr} {h₀ : Heap} {m : Str → Option Value} {R l : List (Addr × Obj)} {s : Shared} {E : Value → Shared → Prop}
set_option maxHeartbeats 2000000 in
/-- if _law_joined(specs, data) != due: return False -/
theorem join_s {Q : Flow → Shared → Prop} {cn cu cf ct x sd : Addr} {so : Obj} {sps : List Sp} {fts : List (Str × List Tr)} {sos nms : List Str} {b : Bool} {v : Value}
    (Γ : Fn w d lawScope (lawCl cn cu cf ct) A env L h₀) (G : Gd w A env L h₀) (hd' : d < 600) (F : Fr h₀ L s.heap m) (Λ : Led h₀ L s.heap (spE w.params sps ++ R)) (hD : DataX w nms R x fts sos)
    (hs : (sd, so) ∈ R) (hsd : IsD w so (sps.map Sp.kv)) (lo : (sd == sysModules) = false) (hsp : ∀ sp ∈ sps, SpIn R sp) (hn : sps.length ≤ 5) (hk1 : ∀ k ∈ fts.map (·.1), k.length ≤ 100) (hk2 : ∀ k ∈ sps.map Sp.name, k.length ≤ 100)
    (h1 : m (Str.ofString "specs") = some (.ref sd)) (h2 : m (Str.ofString "data") = some (.ref x)) (h3 : m (Str.ofString "due") = some v) (hb : b = false ↔ ∀ k, k ∈ sps.map Sp.name ↔ k ∈ fts.map (·.1))
    (hv : (b = true ∧ v = .none) ∨ (b = false ∧ ∃ B vals n ss, v = .ref B ∧ (B, W.listOf vals.toArray n) ∈ R ∧ ss.Perm (sps.map Sp.name) ∧ sortedS ss = true ∧ RowsIn R vals (ss.map (rowOf fts sos)))) (hok : ∀ k ∈ sps.map Sp.name, rowOk (rowOf fts sos k) = true)
    (ret : ∀ Rn s' h₀', Same s s' → Turn A env h₀ h₀' → Fn w d lawScope (lawCl cn cu cf ct) A env L h₀' → Gd w A env L h₀' → Fr h₀' L s'.heap m → Led h₀' L s'.heap (Rn ++ R) → Q .next s') :
    wpAny (model PG w) A (exec (lawStmt 8) env) Q E s := by
  refine wpAny_If (wpAny_isTrue_Compare1 (Γ.callK F (.ref 238) (spliced_more (Γ.lcl F h1 (spliced_more (Γ.lcl F h2 (spliced_none ⟨⟨_, F⟩, ?_⟩)))))))
  refine joined_c Γ G (by omega) F Λ hD hs hsd lo hsp hn hk1 hk2 (fun hall B vals n ss Rn s' h₀' e T Γ' G' F' Λ' hp hso hrows => ?_) (fun hnot Rn s' h₀' e T Γ' G' F' Λ' => ?_)
  · rcases hv with ⟨rfl, _⟩ | ⟨_, B2, vals2, n2, ss2, rfl, hB, hp2, hso2, hrows2⟩
    · exact nomatch hb.mpr hall
    · obtain rfl : ss = ss2 := one_order (hp.trans hp2.symm) (sorted_pw hso) (sorted_pw hso2)
      refine Γ'.lcl F' h3 (ne_rows Λ' (.head _) (.tail _ (List.mem_append_right _ hB)) (hrows.mono fun p h => .tail _ (List.mem_append_left _ h)) (hrows2.mono fun p h => .tail _ (List.mem_append_right _ h)) (fun r hr => ?_) (Γ'.units64 (by omega)) (wpAny_truthy_bool ?_))
      · obtain ⟨k, hk, rfl⟩ := List.mem_map.mp hr
        exact hok k (hp.mem_iff.mp hk)
      · exact wpAny_execs_nil (ret ((B, W.listOf vals.toArray n) :: Rn) s' h₀' e T Γ' G' F' Λ')
  · rcases hv with ⟨_, rfl⟩ | ⟨rfl, _⟩
    · exact Γ'.lcl F' h3 (EqNone.ne_none_none (wpAny_truthy_bool (wpAny_execs_nil (ret Rn s' h₀' e T Γ' G' F' Λ'))))
    · exact absurd (hb.mp rfl) hnot
set_option maxHeartbeats 2000000 in
/-- return sorted(condition_names(data)) == [word for word in sorted(_law_NAMES) if word in found] -/
theorem last_s {Q : Flow → Shared → Prop} {cn cu cf ct x fl : Addr} {oF : Obj} {fvs : List Value} {nf : Nat} {fs : List Str} {ts1 ts2 : List Tr} {fts : List (Str × List Tr)}
    (Γ : Fn w d lawScope (lawCl cn cu cf ct) A env L h₀) (hd' : d < 600) (F : Fr h₀ L s.heap m) (Λ : Led h₀ L s.heap R) (hD : DataIn w NAMES R x ts1 ts2 fts) (h2 : m (Str.ofString "data") = some (.ref x))
    (hmf : (cf, oF) ∈ R) (hdf : oF.data = .cell (some (.ref fl))) (hml : (fl, W.listOf fvs.toArray nf) ∈ R) (hS : StrsAre fvs fs) (hfs : ∀ z, z ∈ fs ↔ ∃ t : Tr, (t ∈ ts1 ∨ t ∈ ts2 ∨ ∃ f ∈ fts, t ∈ f.2) ∧ z ∈ t.2.2)
    (ret : ∀ Rn s', Same s s' → Fr h₀ L s'.heap m → Led h₀ L s'.heap (Rn ++ R) → Q (.ret (.bool true)) s') :
    wpAny (model PG w) A (exec (lawStmt 9) env) Q E s := by
  obtain ⟨nvs, hK, hN⟩ := names_K w.params
  have hnl : nvs.length = 5 := hN.length
  refine wpAny_Return_some (wpAny_Compare1 (Γ.callB1 F sorted_boot (Γ.callK F (.ref 184) (spliced_more (Γ.lcl F h2 (spliced_none ⟨⟨_, F⟩, ?_⟩))))))
  refine cond_c Γ (by omega) F Λ (by decide) hD fun D o kvs R1 s₁ e₁ F₁ Λ₁ hd lo hv hm hl hsub => ?_
  refine sortedD_l Γ.handled F₁ Λ₁ (.head _) hd lo (by omega) fun B vs ss n s₂ e₂ F₂ Λ₂ hS2 hp hso => ?_
  refine Γ.compL (clc := [(Str.ofString "found", cf)]) rfl (Γ.callB1 F₂ sorted_boot (Γ.glb F₂ (.ref 219) (sortedT_l F₂ Λ₂ (tupK_at F₂ Γ.X hK) hN (by omega) fun SB vs' ssN sn s₃ e₃ F₃ Λ₃ hS3 hp3 hso3 => ?_)))
  have hsl : vs'.length = ssN.length := hS3.length
  have hsl2 : ssN.length = 5 := hp3.length_eq
  have hin0 : ∀ {p}, p ∈ R → p ∈ (B, W.listOf vs.toArray n) :: (D, o) :: (R1 ++ R) := fun h => .tail _ (.tail _ (List.mem_append_right _ h))
  generalize hl0 : (B, W.listOf vs.toArray n) :: (D, o) :: (R1 ++ R) = l0 at Λ₃ hin0
  refine ⟨SB, vs', sn, m, _, rfl, .head _, by omega, F₃, Λ₃, fun i ys l₁ => l₁ = (SB, W.listOf vs'.toArray sn) :: l0 ∧ StrsAre ys ((ssN.take i).filter fun z => fs.any (· == z)), ⟨rfl, .nil⟩, ?_, ?_⟩
  · clear F₁ Λ₁ F₂ Λ₂ F₃ Λ₃
    rintro i v mc ys _ s₄ I oI C oC Dl E' hi hP ⟨rfl, hys⟩ hex e₄ F₁ hoC hmx Λ₁
    have hi2 : i < ssN.length := by omega
    obtain ⟨t, ht⟩ := strs_get hS3 (List.getElem?_eq_getElem hi2)
    obtain rfl : v = .str ssN[i] t := Option.some.inj (hP.symm.trans ht)
    have hkt : ssN.take (i + 1) = ssN.take i ++ [ssN[i]] := by rw [List.take_add_one, List.getElem?_eq_getElem hi2]; rfl
    generalize ssN[i] = k at hkt hmx hP ht
    have hin : ∀ {p}, p ∈ R → p ∈ (I, oI) :: (C, oC) :: (Dl, lst ys) :: (SB, W.listOf vs'.toArray sn) :: l0 := fun h => .tail _ (.tail _ (.tail _ (.tail _ (hin0 h))))
    refine wpAny_tests_one (wpAny_isTrue_Compare1 (c_lcl Λ₁.N (.tail _ (.head _)) hoC hmx (Γ.cFree Λ₁.N rfl (hin hmf) hdf (in_list_strs ⟨_, Λ₁.get (hin hml), rfl, _, rfl⟩ hS (wpAny_truthy_bool ?_)))))
    cases hb : fs.any (· == k) with
    | true =>
      rw [if_pos rfl]
      refine c_lcl Λ₁.N (.tail _ (.head _)) hoC hmx ⟨_, ⟨rfl, rfl, rfl⟩, F₁, Λ₁, hex, rfl, ?_⟩
      rw [hkt, List.filter_append, List.filter_cons, hb, if_pos rfl]
      exact strs_snoc hys
    | false =>
      rw [if_neg (by decide)]
      refine ⟨_, ⟨rfl, rfl, rfl⟩, F₁, Λ₁, hex, rfl, ?_⟩
      rw [hkt, List.filter_append, List.filter_cons, hb, if_neg (by decide), List.filter_nil, List.append_nil]
      exact hys
  · rintro Dl s₄ ys _ ⟨rfl, hys⟩ hex e₄ F₄ Λ₄
    rw [List.take_of_length_le (by omega)] at hys
    have hnk : (kvs.map (·.1)).Nodup := by obtain ⟨_, _, _, _, _, _, h⟩ := hd; exact h
    have hN5 : NAMES.Nodup := by decide +kernel
    have heq : ss = ssN.filter fun z => fs.any (· == z) := by
      refine one_order_nd (fun z => ?_) (hp.nodup_iff.mpr hnk) ((hp3.nodup_iff.mpr hN5).sublist (List.filter_sublist)) (sorted_pw hso) ((sorted_pw hso3).sublist (List.filter_sublist))
      rw [hp.mem_iff, List.mem_filter, hp3.mem_iff, List.any_eq_true]
      constructor
      · intro hz
        exact ⟨hsub z hz, z, (hfs z).mpr ((hm z).mp hz), beq_self_eq_true z⟩
      · rintro ⟨_, y, hy, e⟩
        rw [eq_of_beq e] at hy
        exact (hm z).mpr ((hfs z).mp hy)
    rw [← heq] at hys
    have hok : ss.all PyData.strOk = true := by
      refine List.all_eq_true.mpr fun z hz => ?_
      have h5 : NAMES.all PyData.strOk = true := by decide +kernel
      exact List.all_eq_true.mp h5 z (hsub z (hp.mem_iff.mp hz))
    subst hl0
    refine eq_strs Λ₄ (.tail _ (.tail _ (.head _))) (.head _) hS2 hys hok (Γ.units64 (by omega)) ?_
    exact ret ((Dl, lst ys) :: (SB, W.listOf vs'.toArray sn) :: (B, W.listOf vs.toArray n) :: (D, o) :: R1) s₄ (e₁.trans (e₂.trans (e₃.trans e₄))) F₄ Λ₄
end
end Mine
end
section
open PySem PySem.W PySem.Calls PyProof.Rows
namespace Mine
theorem five {vs : List Value} {ss : List Str} (h : StrsAre vs ss) (hl : ss.length = 5) : ∃ a b c d e, vs = [a, b, c, d, e] := by
  have := h.length
  match vs, this with
  | [a, b, c, d, e], _ => exact ⟨a, b, c, d, e, rfl⟩
  | [], h => simp at h; omega
  | [_], h => simp at h; omega
  | [_, _], h => simp at h; omega
  | [_, _, _], h => simp at h; omega
  | [_, _, _, _], h => simp at h; omega
  | _ :: _ :: _ :: _ :: _ :: _ :: _, h => simp at h; omega
theorem strs_rev : ∀ {vs : List Value} {ss : List Str}, StrsAre vs ss → StrsAre vs.reverse ss.reverse
  | _, _, .nil => .nil
  | _, _, .cons x t h => by rw [List.reverse_cons, List.reverse_cons]; exact strs_snoc (strs_rev h)
section
variable {w : World} {d : Nat} {A : Around} {env : Env} {L : Addr} {h₀ : Heap} {m : Str → Option Value} {R l : List (Addr × Obj)} {s : Shared} {E : Value → Shared → Prop}
/-- names = list(_law_FILES if take(2) == 0 else _law_FILES[::-1]) -/
theorem names_s {Q : Flow → Shared → Prop} {cn cu cf ct tk pl : Addr} {oT : Obj} {ns : List Int} {k : Int} {t : Tok} (Γ : Fn w d lawScope (lawCl cn cu cf ct) A env L h₀) (F : Fr h₀ L s.heap m)
    (hmt : (ct, oT) ∈ R) (hdt : oT.data = .cell (some (.ref tk))) (Λ : Led h₀ L s.heap ((pl, W.listOf [Value.int k t].toArray 0) :: R)) (K : TakeIn R tk pl ns) (hk0 : 0 ≤ k) (hk1 : k ≤ 390)
    (ret : ∀ nl nvs nn names t' Rn s' m', Same s s' → Fr h₀ L s'.heap m' → Put (Str.ofString "names") (.ref nl) m m' → Led h₀ L s'.heap ((pl, W.listOf [Value.int (k + 1) t'].toArray 0) :: (Rn ++ R)) → (nl, W.listOf nvs.toArray nn) ∈ Rn → StrsAre nvs names → (names = FILES ∨ names = FILES.reverse) → Q .next s') :
    wpAny (model PG w) A (exec (lawStmt 4) env) Q E s := by
  obtain ⟨fvs, hK, hFl⟩ := files_K w.params
  obtain ⟨v1, v2, v3, v4, v5, rfl⟩ := five hFl rfl
  refine wpAny_Assign_Name (Γ.callT1 F list_boot (wpAny_IfExp (wpAny_isTrue_Compare1 (Γ.takeC F rfl hmt hdt Λ K hk0 (by omega) (by decide) fun r t' u s₁ _ _ e₁ F₁ Λ₁ => wpAny_Constant_int (PyProof.Rows.eq_int (wpAny_truthy_bool ?_))))))
  cases r == 0 with
  | true =>
    refine Γ.glb F₁ (.ref 218) ?_
    refine listT_l (s := { s₁ with toks := _ }) F₁ Λ₁ (tupK_at F₁ Γ.X hK) (by show 5 ≤ 1000; decide) fun B n s₂ e₂ F₂ Λ₂ => ?_
    refine Γ.st F₂ Λ₂ fun s₃ m₃ e₃ F₃ p₃ Λ₃ => ?_
    exact ret B _ n FILES t' [(B, _)] s₃ m₃ (e₁.trans (Same.trans (s' := { s₁ with toks := _ }) ⟨rfl, rfl, rfl⟩ (e₂.trans e₃))) F₃ p₃ (Λ₃.pulls [1]) (.head _) hFl (.inl rfl)
  | false =>
    refine Subscript_ (Γ.glb F₁ (.ref 218) (wpAny_Slice (wpAny_evalPart_none (wpAny_evalPart_none (wpAny_evalPart_some (wpAny_UnaryOp (wpAny_Constant_int (PyProof.Rows.neg_int ?_))))))))
    refine revT_l (s := { s₁ with toks := _ }) F₁ Λ₁ (tupK_at F₁ Γ.X hK) (fun D s₂ e₂ F₂ Λ₂ => ?_) (by with_unfolding_all rfl)
    refine listT_l F₂ Λ₂ (vs := [v5, v4, v3, v2, v1]) ⟨_, Λ₂.get (.head _), rfl, _, rfl⟩ (by show 5 ≤ 1000; decide) fun B n s₃ e₃ F₃ Λ₃ => ?_
    refine Γ.st F₃ Λ₃ fun s₄ m₄ e₄ F₄ p₄ Λ₄ => ?_
    exact ret B _ n FILES.reverse t' [(B, _), (D, _)] s₄ m₄ (e₁.trans (Same.trans (s' := { s₁ with toks := _ }) ⟨rfl, rfl, rfl⟩ (e₂.trans (e₃.trans e₄)))) F₄ p₄ (Λ₄.pulls [2]) (.head _) (strs_rev hFl) (.inr rfl)
/-- specs, dues, is_wrong, ways = ({}, {}, False, take(3)) -/
theorem start_s {Q : Flow → Shared → Prop} {cn cu cf ct tk pl : Addr} {oT oU : Obj} {v0 : Option Value} {ns : List Int} {k : Int} {t : Tok} (Γ : Fn w d lawScope (lawCl cn cu cf ct) A env L h₀) (F : Fr h₀ L s.heap m)
    (hmt : (ct, oT) ∈ R) (hdt : oT.data = .cell (some (.ref tk))) (hoU : oU.data = .cell v0) (Λ : Led h₀ L s.heap ((pl, W.listOf [Value.int k t].toArray 0) :: (cu, oU) :: R)) (K : TakeIn R tk pl ns) (hk0 : 0 ≤ k) (hk1 : k ≤ 390)
    (ret : ∀ sd so ud uo oU' wy tw t' Rn s' m₁ m₂ m', Same s s' → Fr h₀ L s'.heap m' → Put (Str.ofString "specs") (.ref sd) m m₁ → Put (Str.ofString "is_wrong") (.bool false) m₁ m₂ → Put (Str.ofString "ways") (.int wy tw) m₂ m' →
      Led h₀ L s'.heap ((pl, W.listOf [Value.int (k + 1) t'].toArray 0) :: (sd, so) :: (ud, uo) :: (cu, oU') :: (Rn ++ R)) → IsD w so [] → IsD w uo [] → (sd == sysModules) = false → (ud == sysModules) = false → oU'.data = .cell (some (.ref ud)) → Q .next s') :
    wpAny (model PG w) A (exec (lawStmt 5) env) Q E s := by
  refine Assign_Tuple (Tuple_ (spliced_more (newDict_l Γ F Λ fun sd so s₁ e₁ F₁ Λ₁ _ hso lso => ?_)))
  refine spliced_more (newDict_l Γ F₁ Λ₁ fun ud uo s₂ e₂ F₂ Λ₂ _ huo luo => ?_)
  refine spliced_more (wpAny_Constant_bool (spliced_more (Γ.takeC F₂ rfl (R := (ud, uo) :: (sd, so) :: (cu, oU) :: R) (.tail _ (.tail _ (.tail _ hmt))) hdt (Λ₂.pulls [2]) (K.mono fun p h => .tail _ (.tail _ (.tail _ h))) hk0 (by omega) (by decide) fun r t' u s₃ _ _ e₃ F₃ Λ₃ => ?_)))
  refine spliced_none (newTup_l F₃ Λ₃ (by show 4 ≤ 1000; decide) fun q s₄ e₄ F₄ Λ₄ _ => ?_)
  refine Γ.unp F₄ Λ₄ (.head _) fun s₅ e₅ F₅ Λ₅ => ?_
  refine assignInOrder_cons (wpAny_assign_Name (Γ.st F₅ Λ₅ fun s₆ m₆ e₆ F₆ p₆ Λ₆ => ?_))
  refine assignInOrder_cons (wpAny_assign_Name (Γ.stC F₆ (Λ₆.pulls [4]) rfl hoU fun s₇ oU' e₇ F₇ Λ₇ hU => ?_))
  refine assignInOrder_cons (wpAny_assign_Name (Γ.st F₇ Λ₇ fun s₈ m₈ e₈ F₈ p₈ Λ₈ => ?_))
  refine assignInOrder_cons (wpAny_assign_Name (Γ.st F₈ Λ₈ fun s₉ m₉ e₉ F₉ p₉ Λ₉ => assignInOrder_nil ?_))
  exact ret sd so ud uo oU' r u t' [(q, _)] s₉ m₆ m₈ m₉ (e₁.trans (e₂.trans (e₃.trans (e₄.trans (e₅.trans (e₆.trans (e₇.trans (e₈.trans e₉)))))))) F₉ p₆ p₈ p₉ (Λ₉.pulls [3, 4, 4]) hso huo lso luo hU
end
end Mine
end
section
open PySem PySem.W PySem.Calls PyProof.Rows
namespace Mine
theorem files_facts {names : List Str} (h : names = FILES ∨ names = FILES.reverse) : names.length = 5 ∧ names.Nodup ∧ (∀ z ∈ names, z ∈ FILES) ∧ ∀ z ∈ names, z.length ≤ 40 := by
  have h1 : FILES.Nodup := by decide +kernel
  have h2 : (FILES.all fun z => decide (z.length ≤ 40)) = true := by decide +kernel
  have h3 : ∀ z ∈ FILES, z.length ≤ 40 := fun z hz => of_decide_eq_true (List.all_eq_true.mp h2 z hz)
  rcases h with rfl | rfl
  · exact ⟨rfl, h1, fun _ h => h, h3⟩
  · exact ⟨rfl, h1.perm (List.reverse_perm _).symm, fun z h => List.mem_reverse.mp h, fun z h => h3 z (List.mem_reverse.mp h)⟩
theorem found_iff {ts1 ts2 : List Tr} {fts : List (Str × List Tr)} (z : Str) : z ∈ ([] ++ (ts1 ++ ts2).flatMap fun t => t.2.2) ++ (fts.flatMap fun f => f.2.flatMap fun t => t.2.2) ↔ ∃ t : Tr, (t ∈ ts1 ∨ t ∈ ts2 ∨ ∃ f ∈ fts, t ∈ f.2) ∧ z ∈ t.2.2 := by
  simp only [List.nil_append, List.mem_append, List.mem_flatMap]
  constructor
  · rintro (⟨t, h | h, hz⟩ | ⟨f, hf, t, ht, hz⟩)
    · exact ⟨t, .inl h, hz⟩
    · exact ⟨t, .inr (.inl h), hz⟩
    · exact ⟨t, .inr (.inr ⟨f, hf, ht⟩), hz⟩
  · rintro ⟨t, h | h | ⟨f, hf, ht⟩, hz⟩
    · exact .inl ⟨t, .inl h, hz⟩
    · exact .inl ⟨t, .inr h, hz⟩
    · exact .inr ⟨f, hf, t, ht, hz⟩
theorem perm_r {α : Type} (a b q d : List α) : (a ++ (b ++ (q ++ d))).Perm (q ++ (a ++ (b ++ d))) :=
  ((List.perm_append_comm_assoc b q d).append_left a).trans (List.perm_append_comm_assoc a q (b ++ d))
section
variable {w : World} {d : Nat} {A : Around} {env : Env} {L : Addr} {h₀ : Heap} {m : Str → Option Value} {R l : List (Addr × Obj)} {s : Shared} {E : Value → Shared → Prop}
set_option maxHeartbeats 4000000 in
theorem law_c {Q : Flow → Shared → Prop} {a cn cu cf ct : Addr} {oN oU oF oT : Obj} {vs : List Value} {ns : List Int} (Γ : Fn w d lawScope (lawCl cn cu cf ct) A env L h₀) (G : Gd w A env L h₀) (hd' : d < 590) (F : Fr h₀ L s.heap m) (hm : m (Str.ofString "script") = some (.ref a))
    (Λ : Led h₀ L s.heap ((cn, oN) :: (cu, oU) :: (cf, oF) :: (ct, oT) :: (221, tabObj #[]) :: R)) (hN : oN.data = .cell none) (hU : oU.data = .cell none) (hF : oF.data = .cell none) (hT : oT.data = .cell none)
    (hS : h₀.IsList a vs.toArray) (hI : IntsAre vs ns) (hns : ns.length ≤ 63) (C : CodeHd h₀ 225 221) (hE : PassesOwn (model PG w) A env E)
    (ret : ∀ ps l' s' m' h₀', Same s s' → Turn A env h₀ h₀' → Fr h₀' L s'.heap m' → Led h₀' L s'.heap l' → (221, tabObj ps) ∈ l' → Q (.ret (.bool true)) s') :
    wpAny (model PG w) A (execs (bodyOf (topStmt 23)) env) Q E s := by
  have H : Has [(Str.ofString "script", .ref a)] m := Has.nil.cons hm
  show wpAny (model PG w) A (execs [lawStmt 0, lawStmt 1, lawStmt 2, lawStmt 3, lawStmt 4, lawStmt 5, lawStmt 6, lawStmt 7, lawStmt 8, lawStmt 9] env) Q E s
  -- take
  refine wpAny_execs_cons (wpAny_Assign_Name (Γ.callK F (.ref 226) (spliced_more (Γ.lcl F H.get (spliced_none ⟨⟨_, F⟩, ?_⟩)))))
  refine taker_c Γ G (by omega) F (Λ.pulls [4]) hS hI hns C fun tk pl ks ps t R1 s₁ g₁ e₁ T₁ Γ₁ G₁ F₁ Λ₁ K => ?_
  clear Λ F G C hS
  have Λ₁ := (Λ₁.perm ((List.perm_append_comm_assoc R1 [(cn, oN), (cu, oU), (cf, oF), (ct, oT)] R).append_left [_, _])).pulls [5]
  refine Γ₁.stC F₁ Λ₁ rfl hT fun s₂ oT e₂ F₂ Λ₂ hT => ?_
  clear Λ₁ F₁
  -- if not _law_written_right()
  refine wpAny_execs_cons (wpAny_If (wpAny_isTrue_Not (wpAny_isTrue_value (Γ₁.callK0 F₂ (.ref 252) ?_))))
  refine written_c Γ₁ G₁ (by omega) F₂ Λ₂ fun R2 s₃ g₂ e₃ T₂ Γ₂ G₂ F₃ Λ₃ => ?_
  refine wpAny_truthy_bool (wpAny_execs_nil ?_)
  have Λ₃ : Led g₂ L s₃.heap ((ct, oT) :: (pl, W.listOf [Value.int 0 t].toArray 0) :: (221, tabObj ps) :: (cn, oN) :: (cu, oU) :: (cf, oF) :: (R2 ++ (R1 ++ R))) :=
    Λ₃.perm (List.perm_append_comm_assoc R2 [(ct, oT), (pl, W.listOf [Value.int 0 t].toArray 0), (221, tabObj ps), (cn, oN), (cu, oU), (cf, oF)] (R1 ++ R))
  have K : TakeIn (R2 ++ (R1 ++ R)) tk pl ks := K.mono fun p h => List.mem_append_right _ (List.mem_append_left _ h)
  generalize R2 ++ (R1 ++ R) = X at Λ₃ K
  have e₃ := e₁.trans (e₂.trans e₃)
  have T₂ := T₁.trans T₂
  clear Γ Γ₁ G₁ F₂ Λ₂ e₁ e₂ T₁
  -- found = []
  refine wpAny_execs_cons (wpAny_Assign_Name (List_ (spliced_none (newList_l F₃ Λ₃ (by show 0 ≤ 1000; decide) fun fl s₄ e₄ F₄ Λ₄ _ => ?_))))
  refine Γ₂.stC F₄ (Λ₄.pulls [6]) rfl hF fun s₅ oF e₅ F₅ Λ₅ hF => ?_
  have Λ₅ := Λ₅.pulls [1, 3] (l' := (pl, W.listOf [Value.int 0 t].toArray 0) :: (fl, W.listOf ([] : List Value).toArray 0) :: (cf, oF) :: (ct, oT) :: (221, tabObj ps) :: (cn, oN) :: (cu, oU) :: X)
  clear Λ₃ Λ₄ F₃ F₄
  -- data = _law_data(take, found)
  refine wpAny_execs_cons (wpAny_Assign_Name (Γ₂.callK F₅ (.ref 245) (spliced_more (Γ₂.cel Λ₅.N rfl (.tail _ (.tail _ (.tail _ (.head _)))) hT (spliced_more (Γ₂.cel Λ₅.N rfl (.tail _ (.tail _ (.head _))) hF (spliced_none ⟨⟨_, F₅⟩, ?_⟩)))))))
  refine data_c' Γ₂ (by omega) F₅ Λ₅ (K.mono fun p h => .tail _ (.tail _ (.tail _ (.tail _ (.tail _ h))))) (by decide) (by decide) .nil (Nat.zero_le _) fun x dx wl ll fd sl dvs tf ts1 ts2 n1 n2 k t' fvs nf R3 s₆ e₆ F₆ Λ₆ D lfd hT1 hT2 hz1 hz2 hk hk' hfs hfl => ?_
  have Λ₆ : Led g₂ L s₆.heap ((pl, W.listOf [Value.int k t'].toArray 0) :: (fl, W.listOf fvs.toArray nf) :: (fd, dictOf [] 0) :: (sl, W.listOf #[] 0) :: (ll, W.listOf (refsT ts2).toArray n2) :: (wl, W.listOf (refsT ts1).toArray n1) :: (x, instObj 159 dx) :: (dx, dictOf (entsD w.params tf dvs) 6) :: (cf, oF) :: (ct, oT) :: (221, tabObj ps) :: (cn, oN) :: (cu, oU) :: (R3 ++ X)) :=
    Λ₆.perm ((List.perm_append_comm_assoc R3 [(cf, oF), (ct, oT), (221, tabObj ps), (cn, oN), (cu, oU)] X).append_left [_, _, _, _, _, _, _, _])
  have hT1 : TreesIn w.params NAMES (R3 ++ X) ts1 := hT1.mono fun p h => List.mem_append_left _ h
  have hT2 : TreesIn w.params NAMES (R3 ++ X) ts2 := hT2.mono fun p h => List.mem_append_left _ h
  have K : TakeIn (R3 ++ X) tk pl ks := K.mono fun p h => List.mem_append_right _ h
  generalize R3 ++ X = X3 at Λ₆ K hT1 hT2
  refine Γ₂.st F₆ Λ₆ fun s₇ m₇ e₇ F₇ p₇ Λ₇ => ?_
  have H₇ := p₇.has H
  have e₇ := e₃.trans (e₄.trans (e₅.trans (e₆.trans e₇)))
  clear Λ₅ Λ₆ F₅ F₆ e₃ e₄ e₅ e₆
  -- names
  refine wpAny_execs_cons (names_s Γ₂ F₇ (.tail _ (.tail _ (.tail _ (.tail _ (.tail _ (.tail _ (.tail _ (.tail _ (.head _))))))))) hT Λ₇ (K.mono fun p h => .tail _ (.tail _ (.tail _ (.tail _ (.tail _ (.tail _ (.tail _ (.tail _ (.tail _ (.tail _ (.tail _ (.tail _ h)))))))))))) (by omega) (by omega) fun nl nvs nn names t2 R4 s₈ m₈ e₈ F₈ p₈ Λ₈ hnl hNs hfi => ?_)
  have H₈ := p₈.has H₇
  have Λ₈ : Led g₂ L s₈.heap ((pl, W.listOf [Value.int (k + 1) t2].toArray 0) :: (fl, W.listOf fvs.toArray nf) :: (fd, dictOf [] 0) :: (sl, W.listOf #[] 0) :: (ll, W.listOf (refsT ts2).toArray n2) :: (wl, W.listOf (refsT ts1).toArray n1) :: (x, instObj 159 dx) :: (dx, dictOf (entsD w.params tf dvs) 6) :: (cf, oF) :: (ct, oT) :: (221, tabObj ps) :: (cn, oN) :: (cu, oU) :: (R4 ++ X3)) :=
    Λ₈.perm ((List.perm_append_comm_assoc R4 [(fl, W.listOf fvs.toArray nf), (fd, dictOf [] 0), (sl, W.listOf #[] 0), (ll, W.listOf (refsT ts2).toArray n2), (wl, W.listOf (refsT ts1).toArray n1), (x, instObj 159 dx), (dx, dictOf (entsD w.params tf dvs) 6), (cf, oF), (ct, oT), (221, tabObj ps), (cn, oN), (cu, oU)] X3).cons _)
  have hT1 : TreesIn w.params NAMES (R4 ++ X3) ts1 := hT1.mono fun p h => List.mem_append_right _ h
  have hT2 : TreesIn w.params NAMES (R4 ++ X3) ts2 := hT2.mono fun p h => List.mem_append_right _ h
  have K : TakeIn (R4 ++ X3) tk pl ks := K.mono fun p h => List.mem_append_right _ h
  have hnl : (nl, W.listOf nvs.toArray nn) ∈ R4 ++ X3 := List.mem_append_left _ hnl
  generalize R4 ++ X3 = X4 at Λ₈ K hT1 hT2 hnl
  -- specs, dues, is_wrong, ways
  refine wpAny_execs_cons (start_s Γ₂ F₈ (.tail _ (.tail _ (.tail _ (.tail _ (.tail _ (.tail _ (.tail _ (.tail _ (.head _))))))))) hT hU (Λ₈.pulls [12, 1]) (K.mono fun p h => .tail _ (.tail _ (.tail _ (.tail _ (.tail _ (.tail _ (.tail _ (.tail _ (.tail _ (.tail _ (.tail _ h))))))))))) (by omega) (by omega)
    fun sd so ud uo oU wy tw t3 R5 s₉ ma mb m₉ e₉ F₉ pa pb pc Λ₉ hso huo lsd lud hU => ?_)
  have H₉ := pc.has (pb.has (pa.has H₈))
  have Λ₉ : Led g₂ L s₉.heap ((pl, W.listOf [Value.int (k + 1 + 1) t3].toArray 0) :: (fl, W.listOf fvs.toArray nf) :: (fd, dictOf [] 0) :: (sl, W.listOf #[] 0) :: (sd, so) :: (ud, uo) :: (cn, oN) :: (cu, oU) :: (ll, W.listOf (refsT ts2).toArray n2) :: (wl, W.listOf (refsT ts1).toArray n1) :: (x, instObj 159 dx) :: (dx, dictOf (entsD w.params tf dvs) 6) :: (cf, oF) :: (ct, oT) :: (221, tabObj ps) :: (R5 ++ X4)) :=
    Λ₉.perm (((List.perm_append_comm_assoc R5 [(fl, W.listOf fvs.toArray nf), (fd, dictOf [] 0), (sl, W.listOf #[] 0), (ll, W.listOf (refsT ts2).toArray n2), (wl, W.listOf (refsT ts1).toArray n1), (x, instObj 159 dx), (dx, dictOf (entsD w.params tf dvs) 6), (cf, oF), (ct, oT), (221, tabObj ps), (cn, oN)] X4).append_left [_, _, _, _]).trans (pulls_perm [14, 3, 3, 7, 7, 7, 6] _))
  have hT1 : TreesIn w.params NAMES (R5 ++ X4) ts1 := hT1.mono fun p h => List.mem_append_right _ h
  have hT2 : TreesIn w.params NAMES (R5 ++ X4) ts2 := hT2.mono fun p h => List.mem_append_right _ h
  have K : TakeIn (R5 ++ X4) tk pl ks := K.mono fun p h => List.mem_append_right _ h
  have hnl : (nl, W.listOf nvs.toArray nn) ∈ R5 ++ X4 := List.mem_append_right _ hnl
  generalize R5 ++ X4 = X5 at Λ₉ K hT1 hT2 hnl
  have e₉ := e₇.trans (e₈.trans e₉)
  clear Λ₇ Λ₈ F₇ F₈ e₇ e₈
  obtain ⟨f1, f2, f3, f4⟩ := files_facts hfi
  have hin : ∀ {p}, p ∈ X5 → p ∈ (cu, oU) :: (ll, W.listOf (refsT ts2).toArray n2) :: (wl, W.listOf (refsT ts1).toArray n1) :: (x, instObj 159 dx) :: (dx, dictOf (entsD w.params tf dvs) 6) :: (cf, oF) :: (ct, oT) :: (221, tabObj ps) :: X5 :=
    fun h => .tail _ (.tail _ (.tail _ (.tail _ (.tail _ (.tail _ (.tail _ (.tail _ h)))))))
  have K := K.mono fun p h => hin h
  have hT1 := hT1.mono fun p h => hin h
  have hT2 := hT2.mono fun p h => hin h
  have hnl := hin hnl
  have hfl0 : fvs.length ≤ 32 := hfl
  have H₁₀ : Has [(Str.ofString "is_wrong", .bool false), (Str.ofString "specs", .ref sd), (Str.ofString "data", .ref x), (Str.ofString "ways", .int wy tw), (Str.ofString "names", .ref nl)] m₉ := H₉.sub (by simp)
  -- for name in names
  refine wpAny_execs_cons (loop_s Γ₂ (by omega) F₉ Λ₉ (.tail _ (.tail _ (.tail _ (.tail _ (.tail _ (.tail _ (.head _))))))) hT (.tail _ (.tail _ (.tail _ (.tail _ (.tail _ (.head _)))))) hF (.head _) hU hN (.tail _ (.tail _ (.tail _ (.head _)))) (.tail _ (.tail _ (.tail _ (.tail _ (.head _))))) D K (by omega) (by omega) (by omega) hfs isD_nil hso huo hnl hNs f1 f2 f4 H₁₀ hE fun s₁₀ m₁₀ l₁₀ hJ e₁₀ F₁₀ Λ₁₀ => ?_)
  clear Λ₉ F₉ H₉ H₁₀
  obtain ⟨k5, t5, fvs, nf, o, svs, nsv, so, uo, oN, v0, sps, T, rfl, hN, _, _, _, _, hds, hsp, fts, sos, kvs, dvs', b, hS, hSS, hdo, hFI, hdd, hrow, hrec, hP, H₁₁⟩ := hJ
  obtain ⟨p1, p2, p3, p4, p5, p6, p7, p8⟩ := hP
  have hti : (names.take 5).length = 5 := by rw [List.length_take]; omega
  have hsub : ∀ k ∈ names.take 5, k ∈ FILES := fun k hk => f3 k (List.mem_of_mem_take hk)
  have hl40 : ∀ k ∈ names.take 5, k.length ≤ 100 := fun k hk => Nat.le_trans (f4 k (List.mem_of_mem_take hk)) (by decide)
  have hsl : sps.length ≤ 5 := by rw [hti, List.length_map] at p4; exact p4
  have hfl5 : fts.length ≤ 5 := by rw [hti, List.length_map] at p5; exact p5
  have hdl : dvs'.length ≤ 5 := by rw [hti, List.length_map] at p6; exact p6
  -- due
  have hcu : ∀ {l : List (Addr × Obj)} {q}, q ∈ T ++ l → q ∈ (pl, W.listOf [Value.int k5 t5].toArray 0) :: (fl, W.listOf fvs.toArray nf) :: (fd, o) :: (sl, W.listOf svs.toArray nsv) :: (sd, so) :: (ud, uo) :: (cn, oN) :: (spE w.params sps ++ (T ++ l)) :=
    fun h => .tail _ (.tail _ (.tail _ (.tail _ (.tail _ (.tail _ (.tail _ (List.mem_append_right _ h)))))))
  refine wpAny_execs_cons (due_e (fts := fts) (sos := sos) Γ₂ F₁₀ Λ₁₀ H₁₁.get (hcu (List.mem_append_right _ (.head _))) hU (.tail _ (.tail _ (.tail _ (.tail _ (.tail _ (.head _)))))) hdd lud hdl (fun q hq => (hrow q hq).2) fun v s₁₁ m₁₁ R6 e₁₁ F₁₁ p₁₁ Λ₁₁ hv => ?_)
  have H₁₂ := p₁₁.has H₁₁
  -- if _law_joined(specs, data) != due
  have Λ₁₂ : Led g₂ L s₁₁.heap (spE w.params sps ++ (R6 ++ ([(pl, W.listOf [Value.int k5 t5].toArray 0), (fl, W.listOf fvs.toArray nf), (fd, o), (sl, W.listOf svs.toArray nsv), (sd, so), (ud, uo), (cn, oN)] ++ (T ++ ((cu, oU) :: (ll, W.listOf (refsT ts2).toArray n2) :: (wl, W.listOf (refsT ts1).toArray n1) :: (x, instObj 159 dx) :: (dx, dictOf (entsD w.params tf dvs) 6) :: (cf, oF) :: (ct, oT) :: (221, tabObj ps) :: X5))))) :=
    Λ₁₁.perm (perm_r R6 [(pl, W.listOf [Value.int k5 t5].toArray 0), (fl, W.listOf fvs.toArray nf), (fd, o), (sl, W.listOf svs.toArray nsv), (sd, so), (ud, uo), (cn, oN)] (spE w.params sps) _)
  generalize hR0 : (cu, oU) :: (ll, W.listOf (refsT ts2).toArray n2) :: (wl, W.listOf (refsT ts1).toArray n1) :: (x, instObj 159 dx) :: (dx, dictOf (entsD w.params tf dvs) 6) :: (cf, oF) :: (ct, oT) :: (221, tabObj ps) :: X5 = R0 at Λ₁₂ hT1 hT2
  have i1 : (ll, W.listOf (refsT ts2).toArray n2) ∈ R0 := by rw [← hR0]; exact .tail _ (.head _)
  have i2 : (wl, W.listOf (refsT ts1).toArray n1) ∈ R0 := by rw [← hR0]; exact .tail _ (.tail _ (.head _))
  have i3 : (x, instObj 159 dx) ∈ R0 := by rw [← hR0]; exact .tail _ (.tail _ (.tail _ (.head _)))
  have i4 : (dx, dictOf (entsD w.params tf dvs) 6) ∈ R0 := by rw [← hR0]; exact .tail _ (.tail _ (.tail _ (.tail _ (.head _))))
  have i5 : (cf, oF) ∈ R0 := by rw [← hR0]; exact .tail _ (.tail _ (.tail _ (.tail _ (.tail _ (.head _)))))
  have i6 : (221, tabObj ps) ∈ R0 := by rw [← hR0]; exact .tail _ (.tail _ (.tail _ (.tail _ (.tail _ (.tail _ (.tail _ (.head _)))))))
  clear hR0 Λ₁₀ Λ₁₁ F₁₀ hnl K
  generalize hR1 : R6 ++ ([(pl, W.listOf [Value.int k5 t5].toArray 0), (fl, W.listOf fvs.toArray nf), (fd, o), (sl, W.listOf svs.toArray nsv), (sd, so), (ud, uo), (cn, oN)] ++ (T ++ R0)) = R7 at Λ₁₂
  have jT : ∀ p ∈ T, p ∈ R7 := fun p h => by rw [← hR1]; exact List.mem_append_right _ (List.mem_append_right _ (List.mem_append_left _ h))
  have jR : ∀ p ∈ R0, p ∈ R7 := fun p h => by rw [← hR1]; exact List.mem_append_right _ (List.mem_append_right _ (List.mem_append_right _ h))
  have j6 : ∀ p ∈ R6, p ∈ R7 := fun p h => by rw [← hR1]; exact List.mem_append_left _ h
  have j1 : (fl, W.listOf fvs.toArray nf) ∈ R7 := by rw [← hR1]; exact List.mem_append_right _ (.tail _ (.head _))
  have j2 : (fd, o) ∈ R7 := by rw [← hR1]; exact List.mem_append_right _ (.tail _ (.tail _ (.head _)))
  have j3 : (sl, W.listOf svs.toArray nsv) ∈ R7 := by rw [← hR1]; exact List.mem_append_right _ (.tail _ (.tail _ (.tail _ (.head _))))
  have j4 : (sd, so) ∈ R7 := by rw [← hR1]; exact List.mem_append_right _ (.tail _ (.tail _ (.tail _ (.tail _ (.head _)))))
  have hv' : (b = true ∧ v = .none) ∨ (b = false ∧ ∃ B vals n ss, v = .ref B ∧ (B, W.listOf vals.toArray n) ∈ R7 ∧ ss.Perm (sps.map Sp.name) ∧ sortedS ss = true ∧ RowsIn R7 vals (ss.map (rowOf fts sos))) := by
    rcases hv with ⟨e1, e2⟩ | ⟨e1, B, vals, n, ss, e2, e3, e4, e5, e6⟩
    · exact .inl ⟨e1, e2⟩
    · exact .inr ⟨e1, B, vals, n, ss, e2, j6 _ e3, by rw [← p8 e1]; exact e4, e5, e6.mono jT⟩
  have hX : DataX w NAMES R7 x fts sos := ⟨dx, dvs, tf, wl, ll, fd, sl, o, kvs, svs, nsv, jR _ i3, jR _ i4, D, j2, hdo, lfd, hFI.mono jT, j3, hSS, hfl5⟩
  have hDI : DataIn w NAMES R7 x ts1 ts2 fts := ⟨dx, dvs, tf, wl, ll, fd, sl, n1, n2, o, kvs, jR _ i3, jR _ i4, D, jR _ i2, jR _ i1, j2, hdo, lfd, hT1.mono jR, hT2.mono jR, hFI.mono jT, hz1, hz2, hfl5⟩
  refine wpAny_execs_cons (join_s Γ₂ G₂ (by omega) F₁₁ Λ₁₂ hX j4 hds lsd (fun sp h => ⟨jT _ (hsp sp h).1, (hsp sp h).2⟩) hsl (fun k hk => hl40 k (p2 k hk)) (fun k hk => hl40 k (p1 k hk)) H₁₂.get H₁₂.get H₁₂.get p7 hv' (fun k hk => rowOk_of (hsub k (p1 k hk)) hrec) fun R8 s₁₂ g₃ e₁₂ T₃ Γ₃ G₃ F₁₂ Λ₁₃ => ?_)
  -- return
  refine wpAny_execs_cons (last_s Γ₃ (by omega) F₁₂ Λ₁₃ (hDI.mono fun p h => List.mem_append_right _ h) H₁₂.get (List.mem_append_right _ (jR _ i5)) hF (List.mem_append_right _ j1) hS found_iff fun R9 s₁₃ e₁₃ F₁₃ Λ₁₄ => ?_)
  exact ret ps _ s₁₃ _ g₃ (e₉.trans (e₁₀.trans (e₁₁.trans (e₁₂.trans e₁₃)))) (T₂.trans T₃) F₁₃ Λ₁₄ (List.mem_append_right _ (List.mem_append_right _ (jR _ i6)))
end
end Mine
end
section
open PySem PySem.W PySem.Calls PyProof.Rows
namespace Mine
theorem cells4 {cm : Str → Option Value} {x1 x2 x3 x4 : Str} {a1 a2 a3 a4 : Addr} {o1 o2 o3 o4 : Obj} (h : CellsAre cm [(x1, a1), (x2, a2), (x3, a3), (x4, a4)] [(a1, o1), (a2, o2), (a3, o3), (a4, o4)]) :
    o1.data = .cell (cm x1) ∧ o2.data = .cell (cm x2) ∧ o3.data = .cell (cm x3) ∧ o4.data = .cell (cm x4) := by
  cases h with | cons d1 h => cases h with | cons d2 h => cases h with | cons d3 h => cases h with | cons d4 h => exact ⟨d1, d2, d3, d4⟩
end Mine
set_option maxHeartbeats 4000000 in
theorem PySem.Challenge.cw_og0080_01_holds : PySem.Challenge.rw_og0080_01.Holds := by
  refine Mine.head ?_
  k_go0
  rename Fr _ _ _ _ => kF
  rename News _ _ _ _ => kN
  rename Below _ _ _ _ => kB
  rename Frag.In _ _ => kX
  rename Top topProg _ _ _ _ _ => kT
  rename IntsAre _ _ => kI
  rename CellsAre _ _ _ => kC
  rename _ = #[] => kG
  rename ¬ _ < _ => kL
  rename _ < _ => kl
  obtain ⟨d1, d2, d3, d4⟩ := Mine.cells4 kC
  refine Mine.law_c (d := 500) (s := _) (Γ := ⟨_, _, _, _, _, _, _, rfl, rfl, ⟨_, _, _, _, _, _, _, kB, kX, kT, rfl, ?b1, ?b2⟩, ?b3, ?b4⟩) (G := ⟨_, _, _, _, _, _, _, _, rfl, rfl, rfl, kB, kX, kT, fun _ h => nomatch h⟩) (hd' := ?b5) (F := kF) (hm := ?b6) (Λ := ⟨kN, ?b7⟩) (hN := d1) (hU := d2) (hF := d3) (hT := d4) (hS := lifted) (hI := kI) (hns := by omega) (C := codeHd) (hE := ?b8) ?b9
  case b9 =>
    intro ps l' s' m' h₀' e T F' Λ' hm
    obtain ⟨outer, hfr, hT⟩ := T
    have ho : outer = [] := by injection hfr with e; injection e with _ e; exact e.symm
    subst ho
    refine ⟨⟨.inl ⟨.bool true, .bool true, [], rfl, fun _ => rfl, .bool true, ?g1, fun _ => ⟨List.nodup_nil, fun _ h => nomatch h⟩⟩, fun b o eb => F'.keep _ _ (hT.other b o eb (fun h => nomatch h)), ?g2, ?g3⟩, GrownAt.of Λ'.N hm, True.intro⟩
    case g1 => kernel_rfl
    case g2 => exact e.2.2
    case g3 => exact e.1.trans kG
  case b1 => decide
  case b2 => decide
  case b3 => decide
  case b4 => decide
  case b5 => decide
  case b6 => rfl
  case b7 => simp; omega
  case b8 => passes_own
end
