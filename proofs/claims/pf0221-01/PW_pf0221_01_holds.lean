import PyProof.Rows.All
import Wide.All
import OpenK.AllK
import Wide.FinOn
import Lean
import PySem.Challenge.RW_pf0221_01
open PySem PySem.W PyProof.Rows PySem.Spec PySem.Calls
set_option Elab.async false
set_option linter.all false
set_option genInjectivity false
set_option genSizeOfSpec false
set_option maxRecDepth 100000
set_option maxHeartbeats 0
namespace Mine
noncomputable abbrev prg : Program := PySem.Challenge.rw_pf0221_01.prog
noncomputable def body0 : List Stmt := PySem.Challenge.pw_pf0221_01.main.body
noncomputable def pick (l : List Stmt) (i : Nat) : Stmt := match l.drop i with | s :: _ => s | [] => .Pass ⟨0, 0, 0, 0⟩
noncomputable def inCls : Stmt → List Stmt | .ClassDef (body := b) .. => b | _ => []
noncomputable def at1 (i : Nat) : Stmt := pick body0 i
noncomputable def at2 (i j : Nat) : Stmt := pick (inCls (at1 i)) j
noncomputable def fnA : Stmt → Arguments | .FunctionDef (args := a) .. => a | _ => ⟨[], [], none, [], [], none, []⟩
noncomputable def fnB : Stmt → List Stmt | .FunctionDef (body := b) .. => b | _ => []
noncomputable def fnS : Stmt → Scope | .FunctionDef (scope := s) .. => s | _ => prg.main.scope
noncomputable def o11 (P : Params) : Obj := ⟨(.type "tuple"), none, (.seq #[] 0), #[]⟩
noncomputable def o12 (P : Params) : Obj := ⟨.none, none, (.fields #[]), #[]⟩
noncomputable def o13 (P : Params) : Obj := ⟨(.type "code"), none, (.fields #[(.str "<module>" 182), (.str "<module>" 183), (.str "/claim/cut.py" 184), (.int 1 0), (.int 0 0), (.int 0 0), (.int 0 0), (.int 0 0), (.ref 11), (.bool false), (.int 181 0), (.ref 12), .none, .none, .none, .none, (.int 185 0), (.int 1 0), (.str "/claim/cut.py" 186)]), #[]⟩
noncomputable def o14 (P : Params) : Obj := ⟨(.type "frame"), none, .plain, #[(some (.ref 13)), (some (.ref 3)), (some (.ref 3)), none, (some (.str "__main__" 164)), none, (some (.ref 0))]⟩
noncomputable def o3v2 (P : Params) : Obj := ⟨(.type "dict"), none, (.dict #[⟨PyData.keyHash P "__name__", (.str "__name__" 165), (.str "pipeboard.errors" 194)⟩, ⟨PyData.keyHash P "__doc__", (.str "__doc__" 166), .none⟩, ⟨PyData.keyHash P "__package__", (.str "__package__" 167), .none⟩, ⟨PyData.keyHash P "__loader__", (.str "__loader__" 168), (.builtin "__main__.__loader__#opaque")⟩, ⟨PyData.keyHash P "__spec__", (.str "__spec__" 169), .none⟩, ⟨PyData.keyHash P "__annotations__", (.str "__annotations__" 170), (.ref 6)⟩, ⟨PyData.keyHash P "__builtins__", (.str "__builtins__" 171), (.ref 4)⟩, ⟨PyData.keyHash P "__file__", (.str "__file__" 173), (.str "/claim/cut.py" 172)⟩, ⟨PyData.keyHash P "__cached__", (.str "__cached__" 174), .none⟩, ⟨PyData.keyHash P "_wall", (.str "_wall" 193), (.ref 21)⟩, ⟨PyData.keyHash P "BoardError", (.str "BoardError" 223), (.ref 39)⟩, ⟨PyData.keyHash P "BadArgument", (.str "BadArgument" 239), (.ref 52)⟩, ⟨PyData.keyHash P "BadAddress", (.str "BadAddress" 264), (.ref 71)⟩, ⟨PyData.keyHash P "NoRoom", (.str "NoRoom" 280), (.ref 83)⟩] 14), #[]⟩
noncomputable def o12v2 (P : Params) : Obj := ⟨.none, none, (.fields #[(.int 1 0), (.int 0 0), (.ref 20), (.int 5 0), (.int 0 0), (.ref 27), (.int 10 0), (.int 0 0), (.ref 48), (.int 12 0), (.int 0 0), (.ref 60), (.int 17 0), (.int 0 0), (.ref 79)]), #[]⟩
noncomputable def o15 (P : Params) : Obj := ⟨(.type "tuple"), none, (.seq #[] 0), #[]⟩
noncomputable def o16 (P : Params) : Obj := ⟨.none, none, (.fields #[]), #[]⟩
noncomputable def o17 (P : Params) : Obj := ⟨(.type "tuple"), none, (.seq #[(.str "k" 190)] 0), #[]⟩
noncomputable def o18 (P : Params) : Obj := ⟨(.type "tuple"), none, (.seq #[] 0), #[]⟩
noncomputable def o19 (P : Params) : Obj := ⟨.none, none, (.func ⟨"_wall", "_wall", fnA (at1 0), .stmts (fnB (at1 0)), fnS (at1 0), 0, [], .none, .none, .none, .none, none, .none, .none, 0⟩), #[]⟩
noncomputable def o20 (P : Params) : Obj := ⟨(.type "code"), none, (.fields #[(.str "_wall" 187), (.str "_wall" 188), (.str "/claim/cut.py" 189), (.int 1 0), (.int 1 0), (.int 0 0), (.int 0 0), (.int 3 0), (.ref 15), (.bool true), (.int 181 0), (.ref 16), .none, (.ref 17), (.ref 18), (.ref 19), (.int 191 0), (.int 1 0), (.str "/claim/cut.py" 192)]), #[]⟩
noncomputable def o21 (P : Params) : Obj := ⟨(.type "function"), none, (.func ⟨"_wall", "_wall", fnA (at1 0), .stmts (fnB (at1 0)), fnS (at1 0), 3, [], .none, .none, .none, (.str "__main__" 164), none, (.ref 20), .none, 0⟩), #[]⟩
noncomputable def o22 (P : Params) : Obj := ⟨(.type "tuple"), none, (.seq #[(.type "ValueError")] 0), #[]⟩
noncomputable def o23 (P : Params) : Obj := ⟨(.type "builtin_function_or_method"), none, (.fields #[(.builtin "type.__prepare__"), (.type "type")]), #[]⟩
noncomputable def o24 (P : Params) : Obj := ⟨(.type "dict"), none, (.dict #[⟨PyData.keyHash P "__module__", (.str "__module__" 203), (.str "pipeboard.errors" 194)⟩, ⟨PyData.keyHash P "__qualname__", (.str "__qualname__" 205), (.str "BoardError" 204)⟩, ⟨PyData.keyHash P "__firstlineno__", (.str "__firstlineno__" 207), (.int 5 206)⟩, ⟨PyData.keyHash P "__init__", (.str "__init__" 216), (.ref 36)⟩, ⟨PyData.keyHash P "__static_attributes__", (.str "__static_attributes__" 218), (.ref 37)⟩] 5), #[]⟩
noncomputable def o25 (P : Params) : Obj := ⟨(.type "tuple"), none, (.seq #[] 0), #[]⟩
noncomputable def o26 (P : Params) : Obj := ⟨.none, none, (.fields #[(.int 7 0), (.int 4 0), (.ref 35)]), #[]⟩
noncomputable def o27 (P : Params) : Obj := ⟨(.type "code"), none, (.fields #[(.str "BoardError" 198), (.str "BoardError" 199), (.str "/claim/cut.py" 200), (.int 5 0), (.int 0 0), (.int 0 0), (.int 0 0), (.int 0 0), (.ref 25), (.bool false), (.int 181 0), (.ref 26), .none, .none, .none, .none, (.int 201 0), (.int 5 0), (.str "/claim/cut.py" 202)]), #[]⟩
noncomputable def o28 (P : Params) : Obj := ⟨(.type "frame"), none, .plain, #[(some (.ref 27)), (some (.ref 3)), (some (.ref 24)), none, (some (.str "pipeboard.errors" 194)), none, (some (.ref 0))]⟩
noncomputable def o29 (P : Params) : Obj := ⟨(.type "tuple"), none, (.seq #[(.str "" 208)] 0), #[]⟩
noncomputable def o30 (P : Params) : Obj := ⟨(.type "tuple"), none, (.seq #[] 0), #[]⟩
noncomputable def o31 (P : Params) : Obj := ⟨.none, none, (.fields #[]), #[]⟩
noncomputable def o32 (P : Params) : Obj := ⟨(.type "tuple"), none, (.seq #[(.str "self" 212), (.str "reason" 213)] 0), #[]⟩
noncomputable def o33 (P : Params) : Obj := ⟨(.type "tuple"), none, (.seq #[] 0), #[]⟩
noncomputable def o34 (P : Params) : Obj := ⟨.none, none, (.func ⟨"__init__", "BoardError.__init__", fnA (at2 2 0), .stmts (fnB (at2 2 0)), fnS (at2 2 0), 0, [], .none, .none, .none, .none, none, .none, .none, 0⟩), #[]⟩
noncomputable def o35 (P : Params) : Obj := ⟨(.type "code"), none, (.fields #[(.str "__init__" 209), (.str "BoardError.__init__" 210), (.str "/claim/cut.py" 211), (.int 7 0), (.int 2 0), (.int 0 0), (.int 0 0), (.int 3 0), (.ref 30), (.bool true), (.int 181 0), (.ref 31), .none, (.ref 32), (.ref 33), (.ref 34), (.int 214 0), (.int 7 0), (.str "/claim/cut.py" 215)]), #[]⟩
noncomputable def o36 (P : Params) : Obj := ⟨(.type "function"), none, (.func ⟨"__init__", "BoardError.__init__", fnA (at2 2 0), .stmts (fnB (at2 2 0)), fnS (at2 2 0), 3, [], (.ref 29), .none, .none, (.str "pipeboard.errors" 194), none, (.ref 35), .none, 0⟩), #[]⟩
noncomputable def o37 (P : Params) : Obj := ⟨(.type "tuple"), none, (.seq #[(.str "reason" 217)] 0), #[]⟩
noncomputable def o38 (P : Params) : Obj := ⟨(.type "dict"), none, (.dict #[⟨PyData.keyHash P "__module__", (.str "__module__" 203), (.str "pipeboard.errors" 194)⟩, ⟨PyData.keyHash P "__firstlineno__", (.str "__firstlineno__" 207), (.int 5 206)⟩, ⟨PyData.keyHash P "__init__", (.str "__init__" 216), (.ref 36)⟩, ⟨PyData.keyHash P "__static_attributes__", (.str "__static_attributes__" 218), (.ref 37)⟩, ⟨PyData.keyHash P "__weakref__", (.str "__weakref__" 220), (.ref 40)⟩, ⟨PyData.keyHash P "__doc__", (.str "__doc__" 221), .none⟩] 3), #[]⟩
noncomputable def o39 (P : Params) : Obj := ⟨(.type "type"), none, (.cls ⟨"BoardError", [(.type "ValueError")], [(.ref 39), (.type "ValueError"), (.type "Exception"), (.type "BaseException"), (.type "object")], 38, "BoardError", true, [], [(.ref 52), (.ref 71), (.ref 83)], false, none, false⟩), #[(some (.ref 22)), none, (some (.str "BoardError" 196)), (some (.str "BoardError" 204)), (some (.builtin "ValueError.__new__")), (some (.bool true))]⟩
noncomputable def o40 (P : Params) : Obj := ⟨(.type "getset_descriptor"), none, (.fields #[(.str "__weakref__" 219), (.ref 39), (.builtin "ExceptionGroup.__weakref__"), .none]), #[]⟩
noncomputable def o41 (P : Params) : Obj := ⟨(.type "super"), none, (.fields #[(.ref 39), (.ref 39), (.ref 39)]), #[]⟩
noncomputable def o42 (P : Params) : Obj := ⟨(.type "builtin_function_or_method"), none, (.fields #[(.builtin "object.__init_subclass__"), (.ref 39)]), #[]⟩
noncomputable def o43 (P : Params) : Obj := ⟨(.type "tuple"), none, (.seq #[(.ref 39)] 0), #[]⟩
noncomputable def o44 (P : Params) : Obj := ⟨(.type "builtin_function_or_method"), none, (.fields #[(.builtin "type.__prepare__"), (.type "type")]), #[]⟩
noncomputable def o45 (P : Params) : Obj := ⟨(.type "dict"), none, (.dict #[⟨PyData.keyHash P "__module__", (.str "__module__" 231), (.str "pipeboard.errors" 194)⟩, ⟨PyData.keyHash P "__qualname__", (.str "__qualname__" 233), (.str "BadArgument" 232)⟩, ⟨PyData.keyHash P "__firstlineno__", (.str "__firstlineno__" 235), (.int 10 234)⟩, ⟨PyData.keyHash P "__static_attributes__", (.str "__static_attributes__" 236), (.ref 50)⟩] 4), #[]⟩
noncomputable def o46 (P : Params) : Obj := ⟨(.type "tuple"), none, (.seq #[] 0), #[]⟩
noncomputable def o47 (P : Params) : Obj := ⟨.none, none, (.fields #[]), #[]⟩
noncomputable def o48 (P : Params) : Obj := ⟨(.type "code"), none, (.fields #[(.str "BadArgument" 226), (.str "BadArgument" 227), (.str "/claim/cut.py" 228), (.int 10 0), (.int 0 0), (.int 0 0), (.int 0 0), (.int 0 0), (.ref 46), (.bool false), (.int 181 0), (.ref 47), .none, .none, .none, .none, (.int 229 0), (.int 10 0), (.str "/claim/cut.py" 230)]), #[]⟩
noncomputable def o49 (P : Params) : Obj := ⟨(.type "frame"), none, .plain, #[(some (.ref 48)), (some (.ref 3)), (some (.ref 45)), none, (some (.str "pipeboard.errors" 194)), none, (some (.ref 0))]⟩
noncomputable def o50 (P : Params) : Obj := ⟨(.type "tuple"), none, (.seq #[] 0), #[]⟩
noncomputable def o51 (P : Params) : Obj := ⟨(.type "dict"), none, (.dict #[⟨PyData.keyHash P "__module__", (.str "__module__" 231), (.str "pipeboard.errors" 194)⟩, ⟨PyData.keyHash P "__firstlineno__", (.str "__firstlineno__" 235), (.int 10 234)⟩, ⟨PyData.keyHash P "__static_attributes__", (.str "__static_attributes__" 236), (.ref 50)⟩, ⟨PyData.keyHash P "__doc__", (.str "__doc__" 237), .none⟩] 2), #[]⟩
noncomputable def o52 (P : Params) : Obj := ⟨(.type "type"), none, (.cls ⟨"BadArgument", [(.ref 39)], [(.ref 52), (.ref 39), (.type "ValueError"), (.type "Exception"), (.type "BaseException"), (.type "object")], 51, "BadArgument", true, [], [], false, none, false⟩), #[(some (.ref 43)), none, (some (.str "BadArgument" 224)), (some (.str "BadArgument" 232)), (some (.builtin "ValueError.__new__")), (some (.bool true))]⟩
noncomputable def o53 (P : Params) : Obj := ⟨(.type "super"), none, (.fields #[(.ref 52), (.ref 52), (.ref 52)]), #[]⟩
noncomputable def o54 (P : Params) : Obj := ⟨(.type "builtin_function_or_method"), none, (.fields #[(.builtin "object.__init_subclass__"), (.ref 52)]), #[]⟩
noncomputable def o55 (P : Params) : Obj := ⟨(.type "tuple"), none, (.seq #[(.ref 39)] 0), #[]⟩
noncomputable def o56 (P : Params) : Obj := ⟨(.type "builtin_function_or_method"), none, (.fields #[(.builtin "type.__prepare__"), (.type "type")]), #[]⟩
noncomputable def o57 (P : Params) : Obj := ⟨(.type "dict"), none, (.dict #[⟨PyData.keyHash P "__module__", (.str "__module__" 247), (.str "pipeboard.errors" 194)⟩, ⟨PyData.keyHash P "__qualname__", (.str "__qualname__" 249), (.str "BadAddress" 248)⟩, ⟨PyData.keyHash P "__firstlineno__", (.str "__firstlineno__" 251), (.int 12 250)⟩, ⟨PyData.keyHash P "__init__", (.str "__init__" 259), (.ref 68)⟩, ⟨PyData.keyHash P "__static_attributes__", (.str "__static_attributes__" 261), (.ref 69)⟩] 5), #[]⟩
noncomputable def o58 (P : Params) : Obj := ⟨(.type "tuple"), none, (.seq #[] 0), #[]⟩
noncomputable def o59 (P : Params) : Obj := ⟨.none, none, (.fields #[(.int 14 0), (.int 4 0), (.ref 67)]), #[]⟩
noncomputable def o60 (P : Params) : Obj := ⟨(.type "code"), none, (.fields #[(.str "BadAddress" 242), (.str "BadAddress" 243), (.str "/claim/cut.py" 244), (.int 12 0), (.int 0 0), (.int 0 0), (.int 0 0), (.int 0 0), (.ref 58), (.bool false), (.int 181 0), (.ref 59), .none, .none, .none, .none, (.int 245 0), (.int 12 0), (.str "/claim/cut.py" 246)]), #[]⟩
noncomputable def o61 (P : Params) : Obj := ⟨(.type "frame"), none, .plain, #[(some (.ref 60)), (some (.ref 3)), (some (.ref 57)), none, (some (.str "pipeboard.errors" 194)), none, (some (.ref 0))]⟩
noncomputable def o62 (P : Params) : Obj := ⟨(.type "tuple"), none, (.seq #[] 0), #[]⟩
noncomputable def o63 (P : Params) : Obj := ⟨.none, none, (.fields #[]), #[]⟩
noncomputable def o64 (P : Params) : Obj := ⟨(.type "tuple"), none, (.seq #[(.str "self" 255), (.str "address" 256)] 0), #[]⟩
noncomputable def o65 (P : Params) : Obj := ⟨(.type "tuple"), none, (.seq #[] 0), #[]⟩
noncomputable def o66 (P : Params) : Obj := ⟨.none, none, (.func ⟨"__init__", "BadAddress.__init__", fnA (at2 4 0), .stmts (fnB (at2 4 0)), fnS (at2 4 0), 0, [], .none, .none, .none, .none, none, .none, .none, 0⟩), #[]⟩
noncomputable def o67 (P : Params) : Obj := ⟨(.type "code"), none, (.fields #[(.str "__init__" 252), (.str "BadAddress.__init__" 253), (.str "/claim/cut.py" 254), (.int 14 0), (.int 2 0), (.int 0 0), (.int 0 0), (.int 3 0), (.ref 62), (.bool true), (.int 181 0), (.ref 63), .none, (.ref 64), (.ref 65), (.ref 66), (.int 257 0), (.int 14 0), (.str "/claim/cut.py" 258)]), #[]⟩
noncomputable def o68 (P : Params) : Obj := ⟨(.type "function"), none, (.func ⟨"__init__", "BadAddress.__init__", fnA (at2 4 0), .stmts (fnB (at2 4 0)), fnS (at2 4 0), 3, [], .none, .none, .none, (.str "pipeboard.errors" 194), none, (.ref 67), .none, 0⟩), #[]⟩
noncomputable def o69 (P : Params) : Obj := ⟨(.type "tuple"), none, (.seq #[(.str "address" 260)] 0), #[]⟩
noncomputable def o70 (P : Params) : Obj := ⟨(.type "dict"), none, (.dict #[⟨PyData.keyHash P "__module__", (.str "__module__" 247), (.str "pipeboard.errors" 194)⟩, ⟨PyData.keyHash P "__firstlineno__", (.str "__firstlineno__" 251), (.int 12 250)⟩, ⟨PyData.keyHash P "__init__", (.str "__init__" 259), (.ref 68)⟩, ⟨PyData.keyHash P "__static_attributes__", (.str "__static_attributes__" 261), (.ref 69)⟩, ⟨PyData.keyHash P "__doc__", (.str "__doc__" 262), .none⟩] 2), #[]⟩
noncomputable def o71 (P : Params) : Obj := ⟨(.type "type"), none, (.cls ⟨"BadAddress", [(.ref 39)], [(.ref 71), (.ref 39), (.type "ValueError"), (.type "Exception"), (.type "BaseException"), (.type "object")], 70, "BadAddress", true, [], [], false, none, false⟩), #[(some (.ref 55)), none, (some (.str "BadAddress" 240)), (some (.str "BadAddress" 248)), (some (.builtin "ValueError.__new__")), (some (.bool true))]⟩
noncomputable def o72 (P : Params) : Obj := ⟨(.type "super"), none, (.fields #[(.ref 71), (.ref 71), (.ref 71)]), #[]⟩
noncomputable def o73 (P : Params) : Obj := ⟨(.type "builtin_function_or_method"), none, (.fields #[(.builtin "object.__init_subclass__"), (.ref 71)]), #[]⟩
noncomputable def o74 (P : Params) : Obj := ⟨(.type "tuple"), none, (.seq #[(.ref 39)] 0), #[]⟩
noncomputable def o75 (P : Params) : Obj := ⟨(.type "builtin_function_or_method"), none, (.fields #[(.builtin "type.__prepare__"), (.type "type")]), #[]⟩
noncomputable def o76 (P : Params) : Obj := ⟨(.type "dict"), none, (.dict #[⟨PyData.keyHash P "__module__", (.str "__module__" 272), (.str "pipeboard.errors" 194)⟩, ⟨PyData.keyHash P "__qualname__", (.str "__qualname__" 274), (.str "NoRoom" 273)⟩, ⟨PyData.keyHash P "__firstlineno__", (.str "__firstlineno__" 276), (.int 17 275)⟩, ⟨PyData.keyHash P "__static_attributes__", (.str "__static_attributes__" 277), (.ref 81)⟩] 4), #[]⟩
noncomputable def o77 (P : Params) : Obj := ⟨(.type "tuple"), none, (.seq #[] 0), #[]⟩
noncomputable def o78 (P : Params) : Obj := ⟨.none, none, (.fields #[]), #[]⟩
noncomputable def o79 (P : Params) : Obj := ⟨(.type "code"), none, (.fields #[(.str "NoRoom" 267), (.str "NoRoom" 268), (.str "/claim/cut.py" 269), (.int 17 0), (.int 0 0), (.int 0 0), (.int 0 0), (.int 0 0), (.ref 77), (.bool false), (.int 181 0), (.ref 78), .none, .none, .none, .none, (.int 270 0), (.int 17 0), (.str "/claim/cut.py" 271)]), #[]⟩
noncomputable def o80 (P : Params) : Obj := ⟨(.type "frame"), none, .plain, #[(some (.ref 79)), (some (.ref 3)), (some (.ref 76)), none, (some (.str "pipeboard.errors" 194)), none, (some (.ref 0))]⟩
noncomputable def o81 (P : Params) : Obj := ⟨(.type "tuple"), none, (.seq #[] 0), #[]⟩
noncomputable def o82 (P : Params) : Obj := ⟨(.type "dict"), none, (.dict #[⟨PyData.keyHash P "__module__", (.str "__module__" 272), (.str "pipeboard.errors" 194)⟩, ⟨PyData.keyHash P "__firstlineno__", (.str "__firstlineno__" 276), (.int 17 275)⟩, ⟨PyData.keyHash P "__static_attributes__", (.str "__static_attributes__" 277), (.ref 81)⟩, ⟨PyData.keyHash P "__doc__", (.str "__doc__" 278), .none⟩] 2), #[]⟩
noncomputable def o83 (P : Params) : Obj := ⟨(.type "type"), none, (.cls ⟨"NoRoom", [(.ref 39)], [(.ref 83), (.ref 39), (.type "ValueError"), (.type "Exception"), (.type "BaseException"), (.type "object")], 82, "NoRoom", true, [], [], false, none, false⟩), #[(some (.ref 74)), none, (some (.str "NoRoom" 265)), (some (.str "NoRoom" 273)), (some (.builtin "ValueError.__new__")), (some (.bool true))]⟩
noncomputable def o84 (P : Params) : Obj := ⟨(.type "super"), none, (.fields #[(.ref 83), (.ref 83), (.ref 83)]), #[]⟩
noncomputable def o85 (P : Params) : Obj := ⟨(.type "builtin_function_or_method"), none, (.fields #[(.builtin "object.__init_subclass__"), (.ref 83)]), #[]⟩
noncomputable def o3v3 (P : Params) : Obj := ⟨(.type "dict"), none, (.dict #[⟨PyData.keyHash P "__name__", (.str "__name__" 165), (.str "pipeboard.paging" 337)⟩, ⟨PyData.keyHash P "__doc__", (.str "__doc__" 166), .none⟩, ⟨PyData.keyHash P "__package__", (.str "__package__" 167), .none⟩, ⟨PyData.keyHash P "__loader__", (.str "__loader__" 168), (.builtin "__main__.__loader__#opaque")⟩, ⟨PyData.keyHash P "__spec__", (.str "__spec__" 169), .none⟩, ⟨PyData.keyHash P "__annotations__", (.str "__annotations__" 170), (.ref 6)⟩, ⟨PyData.keyHash P "__builtins__", (.str "__builtins__" 171), (.ref 4)⟩, ⟨PyData.keyHash P "__file__", (.str "__file__" 173), (.str "/claim/cut.py" 172)⟩, ⟨PyData.keyHash P "__cached__", (.str "__cached__" 174), .none⟩, ⟨PyData.keyHash P "_wall", (.str "_wall" 193), (.ref 21)⟩, ⟨PyData.keyHash P "BoardError", (.str "BoardError" 223), (.ref 39)⟩, ⟨PyData.keyHash P "BadArgument", (.str "BadArgument" 239), (.ref 52)⟩, ⟨PyData.keyHash P "BadAddress", (.str "BadAddress" 264), (.ref 71)⟩, ⟨PyData.keyHash P "NoRoom", (.str "NoRoom" 280), (.ref 83)⟩, ⟨PyData.keyHash P "Trap", (.str "Trap" 336), (.ref 103)⟩, ⟨PyData.keyHash P "ENTRY", (.str "ENTRY" 340), (.int 4 339)⟩, ⟨PyData.keyHash P "VALID", (.str "VALID" 342), (.int 1 341)⟩, ⟨PyData.keyHash P "READ", (.str "READ" 344), (.int 2 343)⟩, ⟨PyData.keyHash P "WRITE", (.str "WRITE" 346), (.int 4 345)⟩, ⟨PyData.keyHash P "EXECUTE", (.str "EXECUTE" 348), (.int 8 347)⟩, ⟨PyData.keyHash P "USER", (.str "USER" 350), (.int 16 349)⟩, ⟨PyData.keyHash P "ACCESSED", (.str "ACCESSED" 352), (.int 64 351)⟩, ⟨PyData.keyHash P "DIRTY", (.str "DIRTY" 354), (.int 128 353)⟩, ⟨PyData.keyHash P "LEAF", (.str "LEAF" 356), (.int 10 355)⟩, ⟨PyData.keyHash P "FLAG_BITS", (.str "FLAG_BITS" 358), (.int 10 357)⟩, ⟨PyData.keyHash P "FLAGS", (.str "FLAGS" 363), (.int 1023 362)⟩, ⟨PyData.keyHash P "FLAG_NAMES", (.str "FLAG_NAMES" 365), (.str "vrwxugad" 364)⟩, ⟨PyData.keyHash P "DIGITS", (.str "DIGITS" 367), (.str "0123456789abcdef" 366)⟩, ⟨PyData.keyHash P "FETCH", (.str "FETCH" 369), (.str "fetch" 368)⟩, ⟨PyData.keyHash P "LOAD", (.str "LOAD" 371), (.str "load" 370)⟩, ⟨PyData.keyHash P "STORE", (.str "STORE" 373), (.str "store" 372)⟩] 31), #[]⟩
noncomputable def o12v3 (P : Params) : Obj := ⟨.none, none, (.fields #[(.int 1 0), (.int 0 0), (.ref 20), (.int 5 0), (.int 0 0), (.ref 27), (.int 10 0), (.int 0 0), (.ref 48), (.int 12 0), (.int 0 0), (.ref 60), (.int 17 0), (.int 0 0), (.ref 79), (.int 19 0), (.int 0 0), (.ref 91)]), #[]⟩
noncomputable def o39v2 (P : Params) : Obj := ⟨(.type "type"), none, (.cls ⟨"BoardError", [(.type "ValueError")], [(.ref 39), (.type "ValueError"), (.type "Exception"), (.type "BaseException"), (.type "object")], 38, "BoardError", true, [], [(.ref 52), (.ref 71), (.ref 83), (.ref 103)], false, none, false⟩), #[(some (.ref 22)), none, (some (.str "BoardError" 196)), (some (.str "BoardError" 204)), (some (.builtin "ValueError.__new__")), (some (.bool true))]⟩
noncomputable def o86 (P : Params) : Obj := ⟨(.type "tuple"), none, (.seq #[(.ref 39)] 0), #[]⟩
noncomputable def o87 (P : Params) : Obj := ⟨(.type "builtin_function_or_method"), none, (.fields #[(.builtin "type.__prepare__"), (.type "type")]), #[]⟩
noncomputable def o88 (P : Params) : Obj := ⟨(.type "dict"), none, (.dict #[⟨PyData.keyHash P "__module__", (.str "__module__" 288), (.str "pipeboard.errors" 194)⟩, ⟨PyData.keyHash P "__qualname__", (.str "__qualname__" 290), (.str "Trap" 289)⟩, ⟨PyData.keyHash P "__firstlineno__", (.str "__firstlineno__" 292), (.int 19 291)⟩, ⟨PyData.keyHash P "FETCH_MISALIGNED", (.str "FETCH_MISALIGNED" 294), (.int 0 293)⟩, ⟨PyData.keyHash P "FETCH_ACCESS", (.str "FETCH_ACCESS" 296), (.int 1 295)⟩, ⟨PyData.keyHash P "ILLEGAL", (.str "ILLEGAL" 298), (.int 2 297)⟩, ⟨PyData.keyHash P "BREAKPOINT", (.str "BREAKPOINT" 300), (.int 3 299)⟩, ⟨PyData.keyHash P "LOAD_MISALIGNED", (.str "LOAD_MISALIGNED" 302), (.int 4 301)⟩, ⟨PyData.keyHash P "LOAD_ACCESS", (.str "LOAD_ACCESS" 304), (.int 5 303)⟩, ⟨PyData.keyHash P "STORE_MISALIGNED", (.str "STORE_MISALIGNED" 306), (.int 6 305)⟩, ⟨PyData.keyHash P "STORE_ACCESS", (.str "STORE_ACCESS" 308), (.int 7 307)⟩, ⟨PyData.keyHash P "CALL_FROM_USER", (.str "CALL_FROM_USER" 310), (.int 8 309)⟩, ⟨PyData.keyHash P "CALL_FROM_SUPERVISOR", (.str "CALL_FROM_SUPERVISOR" 312), (.int 9 311)⟩, ⟨PyData.keyHash P "CALL_FROM_MACHINE", (.str "CALL_FROM_MACHINE" 314), (.int 11 313)⟩, ⟨PyData.keyHash P "FETCH_PAGE", (.str "FETCH_PAGE" 316), (.int 12 315)⟩, ⟨PyData.keyHash P "LOAD_PAGE", (.str "LOAD_PAGE" 318), (.int 13 317)⟩, ⟨PyData.keyHash P "STORE_PAGE", (.str "STORE_PAGE" 320), (.int 15 319)⟩, ⟨PyData.keyHash P "__init__", (.str "__init__" 330), (.ref 100)⟩, ⟨PyData.keyHash P "__static_attributes__", (.str "__static_attributes__" 333), (.ref 101)⟩] 19), #[]⟩
noncomputable def o89 (P : Params) : Obj := ⟨(.type "tuple"), none, (.seq #[] 0), #[]⟩
noncomputable def o90 (P : Params) : Obj := ⟨.none, none, (.fields #[(.int 35 0), (.int 4 0), (.ref 99)]), #[]⟩
noncomputable def o91 (P : Params) : Obj := ⟨(.type "code"), none, (.fields #[(.str "Trap" 283), (.str "Trap" 284), (.str "/claim/cut.py" 285), (.int 19 0), (.int 0 0), (.int 0 0), (.int 0 0), (.int 0 0), (.ref 89), (.bool false), (.int 181 0), (.ref 90), .none, .none, .none, .none, (.int 286 0), (.int 19 0), (.str "/claim/cut.py" 287)]), #[]⟩
noncomputable def o92 (P : Params) : Obj := ⟨(.type "frame"), none, .plain, #[(some (.ref 91)), (some (.ref 3)), (some (.ref 88)), none, (some (.str "pipeboard.errors" 194)), none, (some (.ref 0))]⟩
noncomputable def o93 (P : Params) : Obj := ⟨(.type "tuple"), none, (.seq #[(.int 0 321)] 0), #[]⟩
noncomputable def o94 (P : Params) : Obj := ⟨(.type "tuple"), none, (.seq #[] 0), #[]⟩
noncomputable def o95 (P : Params) : Obj := ⟨.none, none, (.fields #[]), #[]⟩
noncomputable def o96 (P : Params) : Obj := ⟨(.type "tuple"), none, (.seq #[(.str "self" 325), (.str "cause" 326), (.str "value" 327)] 0), #[]⟩
noncomputable def o97 (P : Params) : Obj := ⟨(.type "tuple"), none, (.seq #[] 0), #[]⟩
noncomputable def o98 (P : Params) : Obj := ⟨.none, none, (.func ⟨"__init__", "Trap.__init__", fnA (at2 6 14), .stmts (fnB (at2 6 14)), fnS (at2 6 14), 0, [], .none, .none, .none, .none, none, .none, .none, 0⟩), #[]⟩
noncomputable def o99 (P : Params) : Obj := ⟨(.type "code"), none, (.fields #[(.str "__init__" 322), (.str "Trap.__init__" 323), (.str "/claim/cut.py" 324), (.int 35 0), (.int 3 0), (.int 0 0), (.int 0 0), (.int 3 0), (.ref 94), (.bool true), (.int 181 0), (.ref 95), .none, (.ref 96), (.ref 97), (.ref 98), (.int 328 0), (.int 35 0), (.str "/claim/cut.py" 329)]), #[]⟩
noncomputable def o100 (P : Params) : Obj := ⟨(.type "function"), none, (.func ⟨"__init__", "Trap.__init__", fnA (at2 6 14), .stmts (fnB (at2 6 14)), fnS (at2 6 14), 3, [], (.ref 93), .none, .none, (.str "pipeboard.errors" 194), none, (.ref 99), .none, 0⟩), #[]⟩
noncomputable def o101 (P : Params) : Obj := ⟨(.type "tuple"), none, (.seq #[(.str "cause" 331), (.str "value" 332)] 0), #[]⟩
noncomputable def o102 (P : Params) : Obj := ⟨(.type "dict"), none, (.dict #[⟨PyData.keyHash P "__module__", (.str "__module__" 288), (.str "pipeboard.errors" 194)⟩, ⟨PyData.keyHash P "__firstlineno__", (.str "__firstlineno__" 292), (.int 19 291)⟩, ⟨PyData.keyHash P "FETCH_MISALIGNED", (.str "FETCH_MISALIGNED" 294), (.int 0 293)⟩, ⟨PyData.keyHash P "FETCH_ACCESS", (.str "FETCH_ACCESS" 296), (.int 1 295)⟩, ⟨PyData.keyHash P "ILLEGAL", (.str "ILLEGAL" 298), (.int 2 297)⟩, ⟨PyData.keyHash P "BREAKPOINT", (.str "BREAKPOINT" 300), (.int 3 299)⟩, ⟨PyData.keyHash P "LOAD_MISALIGNED", (.str "LOAD_MISALIGNED" 302), (.int 4 301)⟩, ⟨PyData.keyHash P "LOAD_ACCESS", (.str "LOAD_ACCESS" 304), (.int 5 303)⟩, ⟨PyData.keyHash P "STORE_MISALIGNED", (.str "STORE_MISALIGNED" 306), (.int 6 305)⟩, ⟨PyData.keyHash P "STORE_ACCESS", (.str "STORE_ACCESS" 308), (.int 7 307)⟩, ⟨PyData.keyHash P "CALL_FROM_USER", (.str "CALL_FROM_USER" 310), (.int 8 309)⟩, ⟨PyData.keyHash P "CALL_FROM_SUPERVISOR", (.str "CALL_FROM_SUPERVISOR" 312), (.int 9 311)⟩, ⟨PyData.keyHash P "CALL_FROM_MACHINE", (.str "CALL_FROM_MACHINE" 314), (.int 11 313)⟩, ⟨PyData.keyHash P "FETCH_PAGE", (.str "FETCH_PAGE" 316), (.int 12 315)⟩, ⟨PyData.keyHash P "LOAD_PAGE", (.str "LOAD_PAGE" 318), (.int 13 317)⟩, ⟨PyData.keyHash P "STORE_PAGE", (.str "STORE_PAGE" 320), (.int 15 319)⟩, ⟨PyData.keyHash P "__init__", (.str "__init__" 330), (.ref 100)⟩, ⟨PyData.keyHash P "__static_attributes__", (.str "__static_attributes__" 333), (.ref 101)⟩, ⟨PyData.keyHash P "__doc__", (.str "__doc__" 334), .none⟩] 2), #[]⟩
noncomputable def o103 (P : Params) : Obj := ⟨(.type "type"), none, (.cls ⟨"Trap", [(.ref 39)], [(.ref 103), (.ref 39), (.type "ValueError"), (.type "Exception"), (.type "BaseException"), (.type "object")], 102, "Trap", true, [], [], false, none, false⟩), #[(some (.ref 86)), none, (some (.str "Trap" 281)), (some (.str "Trap" 289)), (some (.builtin "ValueError.__new__")), (some (.bool true))]⟩
noncomputable def o104 (P : Params) : Obj := ⟨(.type "super"), none, (.fields #[(.ref 103), (.ref 103), (.ref 103)]), #[]⟩
noncomputable def o105 (P : Params) : Obj := ⟨(.type "builtin_function_or_method"), none, (.fields #[(.builtin "object.__init_subclass__"), (.ref 103)]), #[]⟩
noncomputable def o3v4 (P : Params) : Obj := ⟨(.type "dict"), none, (.dict #[⟨PyData.keyHash P "__name__", (.str "__name__" 165), (.str "pipeboard.paging" 337)⟩, ⟨PyData.keyHash P "__doc__", (.str "__doc__" 166), .none⟩, ⟨PyData.keyHash P "__package__", (.str "__package__" 167), .none⟩, ⟨PyData.keyHash P "__loader__", (.str "__loader__" 168), (.builtin "__main__.__loader__#opaque")⟩, ⟨PyData.keyHash P "__spec__", (.str "__spec__" 169), .none⟩, ⟨PyData.keyHash P "__annotations__", (.str "__annotations__" 170), (.ref 6)⟩, ⟨PyData.keyHash P "__builtins__", (.str "__builtins__" 171), (.ref 4)⟩, ⟨PyData.keyHash P "__file__", (.str "__file__" 173), (.str "/claim/cut.py" 172)⟩, ⟨PyData.keyHash P "__cached__", (.str "__cached__" 174), .none⟩, ⟨PyData.keyHash P "_wall", (.str "_wall" 193), (.ref 21)⟩, ⟨PyData.keyHash P "BoardError", (.str "BoardError" 223), (.ref 39)⟩, ⟨PyData.keyHash P "BadArgument", (.str "BadArgument" 239), (.ref 52)⟩, ⟨PyData.keyHash P "BadAddress", (.str "BadAddress" 264), (.ref 71)⟩, ⟨PyData.keyHash P "NoRoom", (.str "NoRoom" 280), (.ref 83)⟩, ⟨PyData.keyHash P "Trap", (.str "Trap" 336), (.ref 103)⟩, ⟨PyData.keyHash P "ENTRY", (.str "ENTRY" 340), (.int 4 339)⟩, ⟨PyData.keyHash P "VALID", (.str "VALID" 342), (.int 1 341)⟩, ⟨PyData.keyHash P "READ", (.str "READ" 344), (.int 2 343)⟩, ⟨PyData.keyHash P "WRITE", (.str "WRITE" 346), (.int 4 345)⟩, ⟨PyData.keyHash P "EXECUTE", (.str "EXECUTE" 348), (.int 8 347)⟩, ⟨PyData.keyHash P "USER", (.str "USER" 350), (.int 16 349)⟩, ⟨PyData.keyHash P "ACCESSED", (.str "ACCESSED" 352), (.int 64 351)⟩, ⟨PyData.keyHash P "DIRTY", (.str "DIRTY" 354), (.int 128 353)⟩, ⟨PyData.keyHash P "LEAF", (.str "LEAF" 356), (.int 10 355)⟩, ⟨PyData.keyHash P "FLAG_BITS", (.str "FLAG_BITS" 358), (.int 10 357)⟩, ⟨PyData.keyHash P "FLAGS", (.str "FLAGS" 363), (.int 1023 362)⟩, ⟨PyData.keyHash P "FLAG_NAMES", (.str "FLAG_NAMES" 365), (.str "vrwxugad" 364)⟩, ⟨PyData.keyHash P "DIGITS", (.str "DIGITS" 367), (.str "0123456789abcdef" 366)⟩, ⟨PyData.keyHash P "FETCH", (.str "FETCH" 369), (.str "fetch" 368)⟩, ⟨PyData.keyHash P "LOAD", (.str "LOAD" 371), (.str "load" 370)⟩, ⟨PyData.keyHash P "STORE", (.str "STORE" 373), (.str "store" 372)⟩, ⟨PyData.keyHash P "PAGE_FAULTS", (.str "PAGE_FAULTS" 380), (.ref 106)⟩, ⟨PyData.keyHash P "ACCESS_FAULTS", (.str "ACCESS_FAULTS" 387), (.ref 107)⟩] 33), #[]⟩
noncomputable def o106 (P : Params) : Obj := ⟨(.type "dict"), none, (.dict #[⟨PyData.keyHash P "fetch", (.str "fetch" 368), (.int 12 315)⟩, ⟨PyData.keyHash P "load", (.str "load" 370), (.int 13 317)⟩, ⟨PyData.keyHash P "store", (.str "store" 372), (.int 15 319)⟩] 3), #[]⟩
noncomputable def o107 (P : Params) : Obj := ⟨(.type "dict"), none, (.dict #[⟨PyData.keyHash P "fetch", (.str "fetch" 368), (.int 1 295)⟩, ⟨PyData.keyHash P "load", (.str "load" 370), (.int 5 303)⟩, ⟨PyData.keyHash P "store", (.str "store" 372), (.int 7 307)⟩] 3), #[]⟩
noncomputable def o3v5 (P : Params) : Obj := ⟨(.type "dict"), none, (.dict #[⟨PyData.keyHash P "__name__", (.str "__name__" 165), (.str "pipeboard.paging" 337)⟩, ⟨PyData.keyHash P "__doc__", (.str "__doc__" 166), .none⟩, ⟨PyData.keyHash P "__package__", (.str "__package__" 167), .none⟩, ⟨PyData.keyHash P "__loader__", (.str "__loader__" 168), (.builtin "__main__.__loader__#opaque")⟩, ⟨PyData.keyHash P "__spec__", (.str "__spec__" 169), .none⟩, ⟨PyData.keyHash P "__annotations__", (.str "__annotations__" 170), (.ref 6)⟩, ⟨PyData.keyHash P "__builtins__", (.str "__builtins__" 171), (.ref 4)⟩, ⟨PyData.keyHash P "__file__", (.str "__file__" 173), (.str "/claim/cut.py" 172)⟩, ⟨PyData.keyHash P "__cached__", (.str "__cached__" 174), .none⟩, ⟨PyData.keyHash P "_wall", (.str "_wall" 193), (.ref 21)⟩, ⟨PyData.keyHash P "BoardError", (.str "BoardError" 223), (.ref 39)⟩, ⟨PyData.keyHash P "BadArgument", (.str "BadArgument" 239), (.ref 52)⟩, ⟨PyData.keyHash P "BadAddress", (.str "BadAddress" 264), (.ref 71)⟩, ⟨PyData.keyHash P "NoRoom", (.str "NoRoom" 280), (.ref 83)⟩, ⟨PyData.keyHash P "Trap", (.str "Trap" 336), (.ref 103)⟩, ⟨PyData.keyHash P "ENTRY", (.str "ENTRY" 340), (.int 4 339)⟩, ⟨PyData.keyHash P "VALID", (.str "VALID" 342), (.int 1 341)⟩, ⟨PyData.keyHash P "READ", (.str "READ" 344), (.int 2 343)⟩, ⟨PyData.keyHash P "WRITE", (.str "WRITE" 346), (.int 4 345)⟩, ⟨PyData.keyHash P "EXECUTE", (.str "EXECUTE" 348), (.int 8 347)⟩, ⟨PyData.keyHash P "USER", (.str "USER" 350), (.int 16 349)⟩, ⟨PyData.keyHash P "ACCESSED", (.str "ACCESSED" 352), (.int 64 351)⟩, ⟨PyData.keyHash P "DIRTY", (.str "DIRTY" 354), (.int 128 353)⟩, ⟨PyData.keyHash P "LEAF", (.str "LEAF" 356), (.int 10 355)⟩, ⟨PyData.keyHash P "FLAG_BITS", (.str "FLAG_BITS" 358), (.int 10 357)⟩, ⟨PyData.keyHash P "FLAGS", (.str "FLAGS" 363), (.int 1023 362)⟩, ⟨PyData.keyHash P "FLAG_NAMES", (.str "FLAG_NAMES" 365), (.str "vrwxugad" 364)⟩, ⟨PyData.keyHash P "DIGITS", (.str "DIGITS" 367), (.str "0123456789abcdef" 366)⟩, ⟨PyData.keyHash P "FETCH", (.str "FETCH" 369), (.str "fetch" 368)⟩, ⟨PyData.keyHash P "LOAD", (.str "LOAD" 371), (.str "load" 370)⟩, ⟨PyData.keyHash P "STORE", (.str "STORE" 373), (.str "store" 372)⟩, ⟨PyData.keyHash P "PAGE_FAULTS", (.str "PAGE_FAULTS" 380), (.ref 106)⟩, ⟨PyData.keyHash P "ACCESS_FAULTS", (.str "ACCESS_FAULTS" 387), (.ref 107)⟩, ⟨PyData.keyHash P "USER_MODE", (.str "USER_MODE" 389), (.int 0 388)⟩, ⟨PyData.keyHash P "Layout", (.str "Layout" 494), (.ref 182)⟩, ⟨PyData.keyHash P "eight_digits", (.str "eight_digits" 500), (.ref 191)⟩, ⟨PyData.keyHash P "is_leaf", (.str "is_leaf" 507), (.ref 198)⟩, ⟨PyData.keyHash P "is_sound", (.str "is_sound" 514), (.ref 205)⟩, ⟨PyData.keyHash P "may", (.str "may" 525), (.ref 212)⟩] 39), #[]⟩
noncomputable def o12v4 (P : Params) : Obj := ⟨.none, none, (.fields #[(.int 1 0), (.int 0 0), (.ref 20), (.int 5 0), (.int 0 0), (.ref 27), (.int 10 0), (.int 0 0), (.ref 48), (.int 12 0), (.int 0 0), (.ref 60), (.int 17 0), (.int 0 0), (.ref 79), (.int 19 0), (.int 0 0), (.ref 91), (.int 59 0), (.int 0 0), (.ref 113), (.int 97 0), (.int 0 0), (.ref 190), (.int 99 0), (.int 0 0), (.ref 197), (.int 101 0), (.int 0 0), (.ref 204), (.int 103 0), (.int 0 0), (.ref 211)]), #[]⟩
noncomputable def o108 (P : Params) : Obj := ⟨(.type "tuple"), none, (.seq #[] 0), #[]⟩
noncomputable def o109 (P : Params) : Obj := ⟨(.type "builtin_function_or_method"), none, (.fields #[(.builtin "type.__prepare__"), (.type "type")]), #[]⟩
noncomputable def o110 (P : Params) : Obj := ⟨(.type "dict"), none, (.dict #[⟨PyData.keyHash P "__module__", (.str "__module__" 397), (.str "pipeboard.paging" 337)⟩, ⟨PyData.keyHash P "__qualname__", (.str "__qualname__" 399), (.str "Layout" 398)⟩, ⟨PyData.keyHash P "__firstlineno__", (.str "__firstlineno__" 401), (.int 59 400)⟩, ⟨PyData.keyHash P "__init__", (.str "__init__" 410), (.ref 122)⟩, ⟨PyData.keyHash P "parts", (.str "parts" 419), (.ref 129)⟩, ⟨PyData.keyHash P "address", (.str "address" 430), (.ref 137)⟩, ⟨PyData.keyHash P "down", (.str "down" 438), (.ref 144)⟩, ⟨PyData.keyHash P "up", (.str "up" 446), (.ref 151)⟩, ⟨PyData.keyHash P "is_begin", (.str "is_begin" 454), (.ref 158)⟩, ⟨PyData.keyHash P "pages_in", (.str "pages_in" 463), (.ref 165)⟩, ⟨PyData.keyHash P "entry", (.str "entry" 472), (.ref 172)⟩, ⟨PyData.keyHash P "physical", (.str "physical" 480), (.ref 179)⟩, ⟨PyData.keyHash P "__static_attributes__", (.str "__static_attributes__" 487), (.ref 180)⟩] 13), #[]⟩
noncomputable def o111 (P : Params) : Obj := ⟨(.type "tuple"), none, (.seq #[] 0), #[]⟩
noncomputable def o112 (P : Params) : Obj := ⟨.none, none, (.fields #[(.int 61 0), (.int 4 0), (.ref 121), (.int 71 0), (.int 4 0), (.ref 128), (.int 77 0), (.int 4 0), (.ref 136), (.int 80 0), (.int 4 0), (.ref 143), (.int 83 0), (.int 4 0), (.ref 150), (.int 86 0), (.int 4 0), (.ref 157), (.int 89 0), (.int 4 0), (.ref 164), (.int 92 0), (.int 4 0), (.ref 171), (.int 95 0), (.int 4 0), (.ref 178)]), #[]⟩
noncomputable def o113 (P : Params) : Obj := ⟨(.type "code"), none, (.fields #[(.str "Layout" 392), (.str "Layout" 393), (.str "/claim/cut.py" 394), (.int 59 0), (.int 0 0), (.int 0 0), (.int 0 0), (.int 0 0), (.ref 111), (.bool false), (.int 181 0), (.ref 112), .none, .none, .none, .none, (.int 395 0), (.int 59 0), (.str "/claim/cut.py" 396)]), #[]⟩
noncomputable def o114 (P : Params) : Obj := ⟨(.type "frame"), none, .plain, #[(some (.ref 113)), (some (.ref 3)), (some (.ref 110)), none, (some (.str "pipeboard.paging" 337)), none, (some (.ref 0))]⟩
noncomputable def o115 (P : Params) : Obj := ⟨(.type "tuple"), none, (.seq #[(.int 12 402)] 0), #[]⟩
noncomputable def o116 (P : Params) : Obj := ⟨(.type "tuple"), none, (.seq #[] 0), #[]⟩
noncomputable def o117 (P : Params) : Obj := ⟨.none, none, (.fields #[]), #[]⟩
noncomputable def o118 (P : Params) : Obj := ⟨(.type "tuple"), none, (.seq #[(.str "self" 406), (.str "page_bits" 407)] 0), #[]⟩
noncomputable def o119 (P : Params) : Obj := ⟨(.type "tuple"), none, (.seq #[] 0), #[]⟩
noncomputable def o120 (P : Params) : Obj := ⟨.none, none, (.func ⟨"__init__", "Layout.__init__", fnA (at2 27 0), .stmts (fnB (at2 27 0)), fnS (at2 27 0), 0, [], .none, .none, .none, .none, none, .none, .none, 0⟩), #[]⟩
noncomputable def o121 (P : Params) : Obj := ⟨(.type "code"), none, (.fields #[(.str "__init__" 403), (.str "Layout.__init__" 404), (.str "/claim/cut.py" 405), (.int 61 0), (.int 2 0), (.int 0 0), (.int 0 0), (.int 3 0), (.ref 116), (.bool true), (.int 181 0), (.ref 117), .none, (.ref 118), (.ref 119), (.ref 120), (.int 408 0), (.int 61 0), (.str "/claim/cut.py" 409)]), #[]⟩
noncomputable def o122 (P : Params) : Obj := ⟨(.type "function"), none, (.func ⟨"__init__", "Layout.__init__", fnA (at2 27 0), .stmts (fnB (at2 27 0)), fnS (at2 27 0), 3, [], (.ref 115), .none, .none, (.str "pipeboard.paging" 337), none, (.ref 121), .none, 0⟩), #[]⟩
noncomputable def o123 (P : Params) : Obj := ⟨(.type "tuple"), none, (.seq #[] 0), #[]⟩
noncomputable def o124 (P : Params) : Obj := ⟨.none, none, (.fields #[]), #[]⟩
noncomputable def o125 (P : Params) : Obj := ⟨(.type "tuple"), none, (.seq #[(.str "self" 414), (.str "address" 415), (.str "number" 416)] 0), #[]⟩
noncomputable def o126 (P : Params) : Obj := ⟨(.type "tuple"), none, (.seq #[] 0), #[]⟩
noncomputable def o127 (P : Params) : Obj := ⟨.none, none, (.func ⟨"parts", "Layout.parts", fnA (at2 27 1), .stmts (fnB (at2 27 1)), fnS (at2 27 1), 0, [], .none, .none, .none, .none, none, .none, .none, 0⟩), #[]⟩
noncomputable def o128 (P : Params) : Obj := ⟨(.type "code"), none, (.fields #[(.str "parts" 411), (.str "Layout.parts" 412), (.str "/claim/cut.py" 413), (.int 71 0), (.int 2 0), (.int 0 0), (.int 0 0), (.int 3 0), (.ref 123), (.bool true), (.int 181 0), (.ref 124), .none, (.ref 125), (.ref 126), (.ref 127), (.int 417 0), (.int 71 0), (.str "/claim/cut.py" 418)]), #[]⟩
noncomputable def o129 (P : Params) : Obj := ⟨(.type "function"), none, (.func ⟨"parts", "Layout.parts", fnA (at2 27 1), .stmts (fnB (at2 27 1)), fnS (at2 27 1), 3, [], .none, .none, .none, (.str "pipeboard.paging" 337), none, (.ref 128), .none, 0⟩), #[]⟩
noncomputable def o130 (P : Params) : Obj := ⟨(.type "tuple"), none, (.seq #[(.int 0 420)] 0), #[]⟩
noncomputable def o131 (P : Params) : Obj := ⟨(.type "tuple"), none, (.seq #[] 0), #[]⟩
noncomputable def o132 (P : Params) : Obj := ⟨.none, none, (.fields #[]), #[]⟩
noncomputable def o133 (P : Params) : Obj := ⟨(.type "tuple"), none, (.seq #[(.str "self" 424), (.str "first" 425), (.str "second" 426), (.str "offset" 427)] 0), #[]⟩
noncomputable def o134 (P : Params) : Obj := ⟨(.type "tuple"), none, (.seq #[] 0), #[]⟩
noncomputable def o135 (P : Params) : Obj := ⟨.none, none, (.func ⟨"address", "Layout.address", fnA (at2 27 2), .stmts (fnB (at2 27 2)), fnS (at2 27 2), 0, [], .none, .none, .none, .none, none, .none, .none, 0⟩), #[]⟩
noncomputable def o136 (P : Params) : Obj := ⟨(.type "code"), none, (.fields #[(.str "address" 421), (.str "Layout.address" 422), (.str "/claim/cut.py" 423), (.int 77 0), (.int 4 0), (.int 0 0), (.int 0 0), (.int 3 0), (.ref 131), (.bool true), (.int 181 0), (.ref 132), .none, (.ref 133), (.ref 134), (.ref 135), (.int 428 0), (.int 77 0), (.str "/claim/cut.py" 429)]), #[]⟩
noncomputable def o137 (P : Params) : Obj := ⟨(.type "function"), none, (.func ⟨"address", "Layout.address", fnA (at2 27 2), .stmts (fnB (at2 27 2)), fnS (at2 27 2), 3, [], (.ref 130), .none, .none, (.str "pipeboard.paging" 337), none, (.ref 136), .none, 0⟩), #[]⟩
noncomputable def o138 (P : Params) : Obj := ⟨(.type "tuple"), none, (.seq #[] 0), #[]⟩
noncomputable def o139 (P : Params) : Obj := ⟨.none, none, (.fields #[]), #[]⟩
noncomputable def o140 (P : Params) : Obj := ⟨(.type "tuple"), none, (.seq #[(.str "self" 434), (.str "address" 435)] 0), #[]⟩
noncomputable def o141 (P : Params) : Obj := ⟨(.type "tuple"), none, (.seq #[] 0), #[]⟩
noncomputable def o142 (P : Params) : Obj := ⟨.none, none, (.func ⟨"down", "Layout.down", fnA (at2 27 3), .stmts (fnB (at2 27 3)), fnS (at2 27 3), 0, [], .none, .none, .none, .none, none, .none, .none, 0⟩), #[]⟩
noncomputable def o143 (P : Params) : Obj := ⟨(.type "code"), none, (.fields #[(.str "down" 431), (.str "Layout.down" 432), (.str "/claim/cut.py" 433), (.int 80 0), (.int 2 0), (.int 0 0), (.int 0 0), (.int 3 0), (.ref 138), (.bool true), (.int 181 0), (.ref 139), .none, (.ref 140), (.ref 141), (.ref 142), (.int 436 0), (.int 80 0), (.str "/claim/cut.py" 437)]), #[]⟩
noncomputable def o144 (P : Params) : Obj := ⟨(.type "function"), none, (.func ⟨"down", "Layout.down", fnA (at2 27 3), .stmts (fnB (at2 27 3)), fnS (at2 27 3), 3, [], .none, .none, .none, (.str "pipeboard.paging" 337), none, (.ref 143), .none, 0⟩), #[]⟩
noncomputable def o145 (P : Params) : Obj := ⟨(.type "tuple"), none, (.seq #[] 0), #[]⟩
noncomputable def o146 (P : Params) : Obj := ⟨.none, none, (.fields #[]), #[]⟩
noncomputable def o147 (P : Params) : Obj := ⟨(.type "tuple"), none, (.seq #[(.str "self" 442), (.str "address" 443)] 0), #[]⟩
noncomputable def o148 (P : Params) : Obj := ⟨(.type "tuple"), none, (.seq #[] 0), #[]⟩
noncomputable def o149 (P : Params) : Obj := ⟨.none, none, (.func ⟨"up", "Layout.up", fnA (at2 27 4), .stmts (fnB (at2 27 4)), fnS (at2 27 4), 0, [], .none, .none, .none, .none, none, .none, .none, 0⟩), #[]⟩
noncomputable def o150 (P : Params) : Obj := ⟨(.type "code"), none, (.fields #[(.str "up" 439), (.str "Layout.up" 440), (.str "/claim/cut.py" 441), (.int 83 0), (.int 2 0), (.int 0 0), (.int 0 0), (.int 3 0), (.ref 145), (.bool true), (.int 181 0), (.ref 146), .none, (.ref 147), (.ref 148), (.ref 149), (.int 444 0), (.int 83 0), (.str "/claim/cut.py" 445)]), #[]⟩
noncomputable def o151 (P : Params) : Obj := ⟨(.type "function"), none, (.func ⟨"up", "Layout.up", fnA (at2 27 4), .stmts (fnB (at2 27 4)), fnS (at2 27 4), 3, [], .none, .none, .none, (.str "pipeboard.paging" 337), none, (.ref 150), .none, 0⟩), #[]⟩
noncomputable def o152 (P : Params) : Obj := ⟨(.type "tuple"), none, (.seq #[] 0), #[]⟩
noncomputable def o153 (P : Params) : Obj := ⟨.none, none, (.fields #[]), #[]⟩
noncomputable def o154 (P : Params) : Obj := ⟨(.type "tuple"), none, (.seq #[(.str "self" 450), (.str "address" 451)] 0), #[]⟩
noncomputable def o155 (P : Params) : Obj := ⟨(.type "tuple"), none, (.seq #[] 0), #[]⟩
noncomputable def o156 (P : Params) : Obj := ⟨.none, none, (.func ⟨"is_begin", "Layout.is_begin", fnA (at2 27 5), .stmts (fnB (at2 27 5)), fnS (at2 27 5), 0, [], .none, .none, .none, .none, none, .none, .none, 0⟩), #[]⟩
noncomputable def o157 (P : Params) : Obj := ⟨(.type "code"), none, (.fields #[(.str "is_begin" 447), (.str "Layout.is_begin" 448), (.str "/claim/cut.py" 449), (.int 86 0), (.int 2 0), (.int 0 0), (.int 0 0), (.int 3 0), (.ref 152), (.bool true), (.int 181 0), (.ref 153), .none, (.ref 154), (.ref 155), (.ref 156), (.int 452 0), (.int 86 0), (.str "/claim/cut.py" 453)]), #[]⟩
noncomputable def o158 (P : Params) : Obj := ⟨(.type "function"), none, (.func ⟨"is_begin", "Layout.is_begin", fnA (at2 27 5), .stmts (fnB (at2 27 5)), fnS (at2 27 5), 3, [], .none, .none, .none, (.str "pipeboard.paging" 337), none, (.ref 157), .none, 0⟩), #[]⟩
noncomputable def o159 (P : Params) : Obj := ⟨(.type "tuple"), none, (.seq #[] 0), #[]⟩
noncomputable def o160 (P : Params) : Obj := ⟨.none, none, (.fields #[]), #[]⟩
noncomputable def o161 (P : Params) : Obj := ⟨(.type "tuple"), none, (.seq #[(.str "self" 458), (.str "begin" 459), (.str "end" 460)] 0), #[]⟩
noncomputable def o162 (P : Params) : Obj := ⟨(.type "tuple"), none, (.seq #[] 0), #[]⟩
noncomputable def o163 (P : Params) : Obj := ⟨.none, none, (.func ⟨"pages_in", "Layout.pages_in", fnA (at2 27 6), .stmts (fnB (at2 27 6)), fnS (at2 27 6), 0, [], .none, .none, .none, .none, none, .none, .none, 0⟩), #[]⟩
noncomputable def o164 (P : Params) : Obj := ⟨(.type "code"), none, (.fields #[(.str "pages_in" 455), (.str "Layout.pages_in" 456), (.str "/claim/cut.py" 457), (.int 89 0), (.int 3 0), (.int 0 0), (.int 0 0), (.int 3 0), (.ref 159), (.bool true), (.int 181 0), (.ref 160), .none, (.ref 161), (.ref 162), (.ref 163), (.int 461 0), (.int 89 0), (.str "/claim/cut.py" 462)]), #[]⟩
noncomputable def o165 (P : Params) : Obj := ⟨(.type "function"), none, (.func ⟨"pages_in", "Layout.pages_in", fnA (at2 27 6), .stmts (fnB (at2 27 6)), fnS (at2 27 6), 3, [], .none, .none, .none, (.str "pipeboard.paging" 337), none, (.ref 164), .none, 0⟩), #[]⟩
noncomputable def o166 (P : Params) : Obj := ⟨(.type "tuple"), none, (.seq #[] 0), #[]⟩
noncomputable def o167 (P : Params) : Obj := ⟨.none, none, (.fields #[]), #[]⟩
noncomputable def o168 (P : Params) : Obj := ⟨(.type "tuple"), none, (.seq #[(.str "self" 467), (.str "physical" 468), (.str "flags" 469)] 0), #[]⟩
noncomputable def o169 (P : Params) : Obj := ⟨(.type "tuple"), none, (.seq #[] 0), #[]⟩
noncomputable def o170 (P : Params) : Obj := ⟨.none, none, (.func ⟨"entry", "Layout.entry", fnA (at2 27 7), .stmts (fnB (at2 27 7)), fnS (at2 27 7), 0, [], .none, .none, .none, .none, none, .none, .none, 0⟩), #[]⟩
noncomputable def o171 (P : Params) : Obj := ⟨(.type "code"), none, (.fields #[(.str "entry" 464), (.str "Layout.entry" 465), (.str "/claim/cut.py" 466), (.int 92 0), (.int 3 0), (.int 0 0), (.int 0 0), (.int 3 0), (.ref 166), (.bool true), (.int 181 0), (.ref 167), .none, (.ref 168), (.ref 169), (.ref 170), (.int 470 0), (.int 92 0), (.str "/claim/cut.py" 471)]), #[]⟩
noncomputable def o172 (P : Params) : Obj := ⟨(.type "function"), none, (.func ⟨"entry", "Layout.entry", fnA (at2 27 7), .stmts (fnB (at2 27 7)), fnS (at2 27 7), 3, [], .none, .none, .none, (.str "pipeboard.paging" 337), none, (.ref 171), .none, 0⟩), #[]⟩
noncomputable def o173 (P : Params) : Obj := ⟨(.type "tuple"), none, (.seq #[] 0), #[]⟩
noncomputable def o174 (P : Params) : Obj := ⟨.none, none, (.fields #[]), #[]⟩
noncomputable def o175 (P : Params) : Obj := ⟨(.type "tuple"), none, (.seq #[(.str "self" 476), (.str "entry" 477)] 0), #[]⟩
noncomputable def o176 (P : Params) : Obj := ⟨(.type "tuple"), none, (.seq #[] 0), #[]⟩
noncomputable def o177 (P : Params) : Obj := ⟨.none, none, (.func ⟨"physical", "Layout.physical", fnA (at2 27 8), .stmts (fnB (at2 27 8)), fnS (at2 27 8), 0, [], .none, .none, .none, .none, none, .none, .none, 0⟩), #[]⟩
noncomputable def o178 (P : Params) : Obj := ⟨(.type "code"), none, (.fields #[(.str "physical" 473), (.str "Layout.physical" 474), (.str "/claim/cut.py" 475), (.int 95 0), (.int 2 0), (.int 0 0), (.int 0 0), (.int 3 0), (.ref 173), (.bool true), (.int 181 0), (.ref 174), .none, (.ref 175), (.ref 176), (.ref 177), (.int 478 0), (.int 95 0), (.str "/claim/cut.py" 479)]), #[]⟩
noncomputable def o179 (P : Params) : Obj := ⟨(.type "function"), none, (.func ⟨"physical", "Layout.physical", fnA (at2 27 8), .stmts (fnB (at2 27 8)), fnS (at2 27 8), 3, [], .none, .none, .none, (.str "pipeboard.paging" 337), none, (.ref 178), .none, 0⟩), #[]⟩
noncomputable def o180 (P : Params) : Obj := ⟨(.type "tuple"), none, (.seq #[(.str "end" 481), (.str "entries" 482), (.str "large" 483), (.str "level_bits" 484), (.str "page" 485), (.str "page_bits" 486)] 0), #[]⟩
noncomputable def o181 (P : Params) : Obj := ⟨(.type "dict"), none, (.dict #[⟨PyData.keyHash P "__module__", (.str "__module__" 397), (.str "pipeboard.paging" 337)⟩, ⟨PyData.keyHash P "__firstlineno__", (.str "__firstlineno__" 401), (.int 59 400)⟩, ⟨PyData.keyHash P "__init__", (.str "__init__" 410), (.ref 122)⟩, ⟨PyData.keyHash P "parts", (.str "parts" 419), (.ref 129)⟩, ⟨PyData.keyHash P "address", (.str "address" 430), (.ref 137)⟩, ⟨PyData.keyHash P "down", (.str "down" 438), (.ref 144)⟩, ⟨PyData.keyHash P "up", (.str "up" 446), (.ref 151)⟩, ⟨PyData.keyHash P "is_begin", (.str "is_begin" 454), (.ref 158)⟩, ⟨PyData.keyHash P "pages_in", (.str "pages_in" 463), (.ref 165)⟩, ⟨PyData.keyHash P "entry", (.str "entry" 472), (.ref 172)⟩, ⟨PyData.keyHash P "physical", (.str "physical" 480), (.ref 179)⟩, ⟨PyData.keyHash P "__static_attributes__", (.str "__static_attributes__" 487), (.ref 180)⟩, ⟨PyData.keyHash P "__dict__", (.str "__dict__" 489), (.ref 183)⟩, ⟨PyData.keyHash P "__weakref__", (.str "__weakref__" 491), (.ref 184)⟩, ⟨PyData.keyHash P "__doc__", (.str "__doc__" 492), .none⟩] 4), #[]⟩
noncomputable def o182 (P : Params) : Obj := ⟨(.type "type"), none, (.cls ⟨"Layout", [(.type "object")], [(.ref 182), (.type "object")], 181, "Layout", true, [], [], false, none, false⟩), #[none, none, (some (.str "Layout" 390)), (some (.str "Layout" 398)), (some (.builtin "object.__new__")), (some (.bool true))]⟩
noncomputable def o183 (P : Params) : Obj := ⟨(.type "getset_descriptor"), none, (.fields #[(.str "__dict__" 488), (.ref 182), (.builtin "function.__dict__"), (.builtin "function.__dict__#set")]), #[]⟩
noncomputable def o184 (P : Params) : Obj := ⟨(.type "getset_descriptor"), none, (.fields #[(.str "__weakref__" 490), (.ref 182), (.builtin "ExceptionGroup.__weakref__"), .none]), #[]⟩
noncomputable def o185 (P : Params) : Obj := ⟨(.type "super"), none, (.fields #[(.ref 182), (.ref 182), (.ref 182)]), #[]⟩
noncomputable def o186 (P : Params) : Obj := ⟨(.type "builtin_function_or_method"), none, (.fields #[(.builtin "object.__init_subclass__"), (.ref 182)]), #[]⟩
noncomputable def o187 (P : Params) : Obj := ⟨(.type "tuple"), none, (.seq #[] 0), #[]⟩
noncomputable def o188 (P : Params) : Obj := ⟨.none, none, (.fields #[]), #[]⟩
noncomputable def o189 (P : Params) : Obj := ⟨.none, none, (.func ⟨"eight_digits", "eight_digits", fnA (at1 28), .stmts (fnB (at1 28)), fnS (at1 28), 0, [], .none, .none, .none, .none, none, .none, .none, 0⟩), #[]⟩
noncomputable def o190 (P : Params) : Obj := ⟨(.type "code"), none, (.fields #[(.str "eight_digits" 495), (.str "eight_digits" 496), (.str "/claim/cut.py" 497), (.int 97 0), (.int 1 0), (.int 0 0), (.int 0 0), (.int 3 0), (.ref 187), (.bool true), (.int 181 0), (.ref 188), .none, .none, .none, (.ref 189), (.int 498 0), (.int 97 0), (.str "/claim/cut.py" 499)]), #[]⟩
noncomputable def o191 (P : Params) : Obj := ⟨(.type "function"), none, (.func ⟨"eight_digits", "eight_digits", fnA (at1 28), .stmts (fnB (at1 28)), fnS (at1 28), 3, [], .none, .none, .none, (.str "pipeboard.paging" 337), none, (.ref 190), .none, 0⟩), #[]⟩
noncomputable def o192 (P : Params) : Obj := ⟨(.type "tuple"), none, (.seq #[] 0), #[]⟩
noncomputable def o193 (P : Params) : Obj := ⟨.none, none, (.fields #[]), #[]⟩
noncomputable def o194 (P : Params) : Obj := ⟨(.type "tuple"), none, (.seq #[(.str "entry" 504)] 0), #[]⟩
noncomputable def o195 (P : Params) : Obj := ⟨(.type "tuple"), none, (.seq #[] 0), #[]⟩
noncomputable def o196 (P : Params) : Obj := ⟨.none, none, (.func ⟨"is_leaf", "is_leaf", fnA (at1 29), .stmts (fnB (at1 29)), fnS (at1 29), 0, [], .none, .none, .none, .none, none, .none, .none, 0⟩), #[]⟩
noncomputable def o197 (P : Params) : Obj := ⟨(.type "code"), none, (.fields #[(.str "is_leaf" 501), (.str "is_leaf" 502), (.str "/claim/cut.py" 503), (.int 99 0), (.int 1 0), (.int 0 0), (.int 0 0), (.int 3 0), (.ref 192), (.bool true), (.int 181 0), (.ref 193), .none, (.ref 194), (.ref 195), (.ref 196), (.int 505 0), (.int 99 0), (.str "/claim/cut.py" 506)]), #[]⟩
noncomputable def o198 (P : Params) : Obj := ⟨(.type "function"), none, (.func ⟨"is_leaf", "is_leaf", fnA (at1 29), .stmts (fnB (at1 29)), fnS (at1 29), 3, [], .none, .none, .none, (.str "pipeboard.paging" 337), none, (.ref 197), .none, 0⟩), #[]⟩
noncomputable def o199 (P : Params) : Obj := ⟨(.type "tuple"), none, (.seq #[] 0), #[]⟩
noncomputable def o200 (P : Params) : Obj := ⟨.none, none, (.fields #[]), #[]⟩
noncomputable def o201 (P : Params) : Obj := ⟨(.type "tuple"), none, (.seq #[(.str "entry" 511)] 0), #[]⟩
noncomputable def o202 (P : Params) : Obj := ⟨(.type "tuple"), none, (.seq #[] 0), #[]⟩
noncomputable def o203 (P : Params) : Obj := ⟨.none, none, (.func ⟨"is_sound", "is_sound", fnA (at1 30), .stmts (fnB (at1 30)), fnS (at1 30), 0, [], .none, .none, .none, .none, none, .none, .none, 0⟩), #[]⟩
noncomputable def o204 (P : Params) : Obj := ⟨(.type "code"), none, (.fields #[(.str "is_sound" 508), (.str "is_sound" 509), (.str "/claim/cut.py" 510), (.int 101 0), (.int 1 0), (.int 0 0), (.int 0 0), (.int 3 0), (.ref 199), (.bool true), (.int 181 0), (.ref 200), .none, (.ref 201), (.ref 202), (.ref 203), (.int 512 0), (.int 101 0), (.str "/claim/cut.py" 513)]), #[]⟩
noncomputable def o205 (P : Params) : Obj := ⟨(.type "function"), none, (.func ⟨"is_sound", "is_sound", fnA (at1 30), .stmts (fnB (at1 30)), fnS (at1 30), 3, [], .none, .none, .none, (.str "pipeboard.paging" 337), none, (.ref 204), .none, 0⟩), #[]⟩
noncomputable def o206 (P : Params) : Obj := ⟨(.type "tuple"), none, (.seq #[] 0), #[]⟩
noncomputable def o207 (P : Params) : Obj := ⟨.none, none, (.fields #[]), #[]⟩
noncomputable def o208 (P : Params) : Obj := ⟨(.type "tuple"), none, (.seq #[(.str "entry" 518), (.str "kind" 519), (.str "mode" 520), (.str "sum_bit" 521), (.str "mxr" 522)] 0), #[]⟩
noncomputable def o209 (P : Params) : Obj := ⟨(.type "tuple"), none, (.seq #[] 0), #[]⟩
noncomputable def o210 (P : Params) : Obj := ⟨.none, none, (.func ⟨"may", "may", fnA (at1 31), .stmts (fnB (at1 31)), fnS (at1 31), 0, [], .none, .none, .none, .none, none, .none, .none, 0⟩), #[]⟩
noncomputable def o211 (P : Params) : Obj := ⟨(.type "code"), none, (.fields #[(.str "may" 515), (.str "may" 516), (.str "/claim/cut.py" 517), (.int 103 0), (.int 5 0), (.int 0 0), (.int 0 0), (.int 3 0), (.ref 206), (.bool true), (.int 181 0), (.ref 207), .none, (.ref 208), (.ref 209), (.ref 210), (.int 523 0), (.int 103 0), (.str "/claim/cut.py" 524)]), #[]⟩
noncomputable def o212 (P : Params) : Obj := ⟨(.type "function"), none, (.func ⟨"may", "may", fnA (at1 31), .stmts (fnB (at1 31)), fnS (at1 31), 3, [], .none, .none, .none, (.str "pipeboard.paging" 337), none, (.ref 211), .none, 0⟩), #[]⟩
noncomputable def o3v6 (P : Params) : Obj := ⟨(.type "dict"), none, (.dict #[⟨PyData.keyHash P "__name__", (.str "__name__" 165), (.str "pipeboard.paging" 337)⟩, ⟨PyData.keyHash P "__doc__", (.str "__doc__" 166), .none⟩, ⟨PyData.keyHash P "__package__", (.str "__package__" 167), .none⟩, ⟨PyData.keyHash P "__loader__", (.str "__loader__" 168), (.builtin "__main__.__loader__#opaque")⟩, ⟨PyData.keyHash P "__spec__", (.str "__spec__" 169), .none⟩, ⟨PyData.keyHash P "__annotations__", (.str "__annotations__" 170), (.ref 6)⟩, ⟨PyData.keyHash P "__builtins__", (.str "__builtins__" 171), (.ref 4)⟩, ⟨PyData.keyHash P "__file__", (.str "__file__" 173), (.str "/claim/cut.py" 172)⟩, ⟨PyData.keyHash P "__cached__", (.str "__cached__" 174), .none⟩, ⟨PyData.keyHash P "_wall", (.str "_wall" 193), (.ref 21)⟩, ⟨PyData.keyHash P "BoardError", (.str "BoardError" 223), (.ref 39)⟩, ⟨PyData.keyHash P "BadArgument", (.str "BadArgument" 239), (.ref 52)⟩, ⟨PyData.keyHash P "BadAddress", (.str "BadAddress" 264), (.ref 71)⟩, ⟨PyData.keyHash P "NoRoom", (.str "NoRoom" 280), (.ref 83)⟩, ⟨PyData.keyHash P "Trap", (.str "Trap" 336), (.ref 103)⟩, ⟨PyData.keyHash P "ENTRY", (.str "ENTRY" 340), (.int 4 339)⟩, ⟨PyData.keyHash P "VALID", (.str "VALID" 342), (.int 1 341)⟩, ⟨PyData.keyHash P "READ", (.str "READ" 344), (.int 2 343)⟩, ⟨PyData.keyHash P "WRITE", (.str "WRITE" 346), (.int 4 345)⟩, ⟨PyData.keyHash P "EXECUTE", (.str "EXECUTE" 348), (.int 8 347)⟩, ⟨PyData.keyHash P "USER", (.str "USER" 350), (.int 16 349)⟩, ⟨PyData.keyHash P "ACCESSED", (.str "ACCESSED" 352), (.int 64 351)⟩, ⟨PyData.keyHash P "DIRTY", (.str "DIRTY" 354), (.int 128 353)⟩, ⟨PyData.keyHash P "LEAF", (.str "LEAF" 356), (.int 10 355)⟩, ⟨PyData.keyHash P "FLAG_BITS", (.str "FLAG_BITS" 358), (.int 10 357)⟩, ⟨PyData.keyHash P "FLAGS", (.str "FLAGS" 363), (.int 1023 362)⟩, ⟨PyData.keyHash P "FLAG_NAMES", (.str "FLAG_NAMES" 365), (.str "vrwxugad" 364)⟩, ⟨PyData.keyHash P "DIGITS", (.str "DIGITS" 367), (.str "0123456789abcdef" 366)⟩, ⟨PyData.keyHash P "FETCH", (.str "FETCH" 369), (.str "fetch" 368)⟩, ⟨PyData.keyHash P "LOAD", (.str "LOAD" 371), (.str "load" 370)⟩, ⟨PyData.keyHash P "STORE", (.str "STORE" 373), (.str "store" 372)⟩, ⟨PyData.keyHash P "PAGE_FAULTS", (.str "PAGE_FAULTS" 380), (.ref 106)⟩, ⟨PyData.keyHash P "ACCESS_FAULTS", (.str "ACCESS_FAULTS" 387), (.ref 107)⟩, ⟨PyData.keyHash P "USER_MODE", (.str "USER_MODE" 389), (.int 0 388)⟩, ⟨PyData.keyHash P "Layout", (.str "Layout" 494), (.ref 182)⟩, ⟨PyData.keyHash P "eight_digits", (.str "eight_digits" 500), (.ref 191)⟩, ⟨PyData.keyHash P "is_leaf", (.str "is_leaf" 507), (.ref 198)⟩, ⟨PyData.keyHash P "is_sound", (.str "is_sound" 514), (.ref 205)⟩, ⟨PyData.keyHash P "may", (.str "may" 525), (.ref 212)⟩, ⟨PyData.keyHash P "Walker", (.str "Walker" 627), (.ref 266)⟩, ⟨PyData.keyHash P "Quick", (.str "Quick" 685), (.ref 302)⟩] 41), #[]⟩
noncomputable def o12v5 (P : Params) : Obj := ⟨.none, none, (.fields #[(.int 1 0), (.int 0 0), (.ref 20), (.int 5 0), (.int 0 0), (.ref 27), (.int 10 0), (.int 0 0), (.ref 48), (.int 12 0), (.int 0 0), (.ref 60), (.int 17 0), (.int 0 0), (.ref 79), (.int 19 0), (.int 0 0), (.ref 91), (.int 59 0), (.int 0 0), (.ref 113), (.int 97 0), (.int 0 0), (.ref 190), (.int 99 0), (.int 0 0), (.ref 197), (.int 101 0), (.int 0 0), (.ref 204), (.int 103 0), (.int 0 0), (.ref 211), (.int 113 0), (.int 0 0), (.ref 218), (.int 160 0), (.int 0 0), (.ref 276)]), #[]⟩
noncomputable def o213 (P : Params) : Obj := ⟨(.type "tuple"), none, (.seq #[] 0), #[]⟩
noncomputable def o214 (P : Params) : Obj := ⟨(.type "builtin_function_or_method"), none, (.fields #[(.builtin "type.__prepare__"), (.type "type")]), #[]⟩
noncomputable def o215 (P : Params) : Obj := ⟨(.type "dict"), none, (.dict #[⟨PyData.keyHash P "__module__", (.str "__module__" 533), (.str "pipeboard.paging" 337)⟩, ⟨PyData.keyHash P "__qualname__", (.str "__qualname__" 535), (.str "Walker" 534)⟩, ⟨PyData.keyHash P "__firstlineno__", (.str "__firstlineno__" 537), (.int 113 536)⟩, ⟨PyData.keyHash P "__init__", (.str "__init__" 546), (.ref 226)⟩, ⟨PyData.keyHash P "translate", (.str "translate" 564), (.ref 234)⟩, ⟨PyData.keyHash P "entry_at", (.str "entry_at" 575), (.ref 241)⟩, ⟨PyData.keyHash P "large_page", (.str "large_page" 590), (.ref 248)⟩, ⟨PyData.keyHash P "mark", (.str "mark" 602), (.ref 255)⟩, ⟨PyData.keyHash P "probe", (.str "probe" 617), (.ref 263)⟩, ⟨PyData.keyHash P "__static_attributes__", (.str "__static_attributes__" 620), (.ref 264)⟩] 10), #[]⟩
noncomputable def o216 (P : Params) : Obj := ⟨(.type "tuple"), none, (.seq #[] 0), #[]⟩
noncomputable def o217 (P : Params) : Obj := ⟨.none, none, (.fields #[(.int 115 0), (.int 4 0), (.ref 225), (.int 119 0), (.int 4 0), (.ref 233), (.int 134 0), (.int 4 0), (.ref 240), (.int 143 0), (.int 4 0), (.ref 247), (.int 150 0), (.int 4 0), (.ref 254), (.int 158 0), (.int 4 0), (.ref 262)]), #[]⟩
noncomputable def o218 (P : Params) : Obj := ⟨(.type "code"), none, (.fields #[(.str "Walker" 528), (.str "Walker" 529), (.str "/claim/cut.py" 530), (.int 113 0), (.int 0 0), (.int 0 0), (.int 0 0), (.int 0 0), (.ref 216), (.bool false), (.int 181 0), (.ref 217), .none, .none, .none, .none, (.int 531 0), (.int 113 0), (.str "/claim/cut.py" 532)]), #[]⟩
noncomputable def o219 (P : Params) : Obj := ⟨(.type "frame"), none, .plain, #[(some (.ref 218)), (some (.ref 3)), (some (.ref 215)), none, (some (.str "pipeboard.paging" 337)), none, (some (.ref 0))]⟩
noncomputable def o220 (P : Params) : Obj := ⟨(.type "tuple"), none, (.seq #[] 0), #[]⟩
noncomputable def o221 (P : Params) : Obj := ⟨.none, none, (.fields #[]), #[]⟩
noncomputable def o222 (P : Params) : Obj := ⟨(.type "tuple"), none, (.seq #[(.str "self" 541), (.str "bus" 542), (.str "layout" 543)] 0), #[]⟩
noncomputable def o223 (P : Params) : Obj := ⟨(.type "tuple"), none, (.seq #[] 0), #[]⟩
noncomputable def o224 (P : Params) : Obj := ⟨.none, none, (.func ⟨"__init__", "Walker.__init__", fnA (at2 32 0), .stmts (fnB (at2 32 0)), fnS (at2 32 0), 0, [], .none, .none, .none, .none, none, .none, .none, 0⟩), #[]⟩
noncomputable def o225 (P : Params) : Obj := ⟨(.type "code"), none, (.fields #[(.str "__init__" 538), (.str "Walker.__init__" 539), (.str "/claim/cut.py" 540), (.int 115 0), (.int 3 0), (.int 0 0), (.int 0 0), (.int 3 0), (.ref 220), (.bool true), (.int 181 0), (.ref 221), .none, (.ref 222), (.ref 223), (.ref 224), (.int 544 0), (.int 115 0), (.str "/claim/cut.py" 545)]), #[]⟩
noncomputable def o226 (P : Params) : Obj := ⟨(.type "function"), none, (.func ⟨"__init__", "Walker.__init__", fnA (at2 32 0), .stmts (fnB (at2 32 0)), fnS (at2 32 0), 3, [], .none, .none, .none, (.str "pipeboard.paging" 337), none, (.ref 225), .none, 0⟩), #[]⟩
noncomputable def o227 (P : Params) : Obj := ⟨(.type "tuple"), none, (.seq #[(.int 0 547), (.int 0 548)] 0), #[]⟩
noncomputable def o228 (P : Params) : Obj := ⟨(.type "tuple"), none, (.seq #[] 0), #[]⟩
noncomputable def o229 (P : Params) : Obj := ⟨.none, none, (.fields #[]), #[]⟩
noncomputable def o230 (P : Params) : Obj := ⟨(.type "tuple"), none, (.seq #[(.str "self" 552), (.str "root" 553), (.str "address" 554), (.str "kind" 555), (.str "mode" 556), (.str "sum_bit" 557), (.str "mxr" 558), (.str "parts" 559), (.str "place" 560), (.str "entry" 561)] 0), #[]⟩
noncomputable def o231 (P : Params) : Obj := ⟨(.type "tuple"), none, (.seq #[] 0), #[]⟩
noncomputable def o232 (P : Params) : Obj := ⟨.none, none, (.func ⟨"translate", "Walker.translate", fnA (at2 32 1), .stmts (fnB (at2 32 1)), fnS (at2 32 1), 0, [], .none, .none, .none, .none, none, .none, .none, 0⟩), #[]⟩
noncomputable def o233 (P : Params) : Obj := ⟨(.type "code"), none, (.fields #[(.str "translate" 549), (.str "Walker.translate" 550), (.str "/claim/cut.py" 551), (.int 119 0), (.int 7 0), (.int 0 0), (.int 0 0), (.int 3 0), (.ref 228), (.bool true), (.int 181 0), (.ref 229), .none, (.ref 230), (.ref 231), (.ref 232), (.int 562 0), (.int 119 0), (.str "/claim/cut.py" 563)]), #[]⟩
noncomputable def o234 (P : Params) : Obj := ⟨(.type "function"), none, (.func ⟨"translate", "Walker.translate", fnA (at2 32 1), .stmts (fnB (at2 32 1)), fnS (at2 32 1), 3, [], (.ref 227), .none, .none, (.str "pipeboard.paging" 337), none, (.ref 233), .none, 0⟩), #[]⟩
noncomputable def o235 (P : Params) : Obj := ⟨(.type "tuple"), none, (.seq #[] 0), #[]⟩
noncomputable def o236 (P : Params) : Obj := ⟨.none, none, (.fields #[]), #[]⟩
noncomputable def o237 (P : Params) : Obj := ⟨(.type "tuple"), none, (.seq #[(.str "self" 568), (.str "place" 569), (.str "address" 570), (.str "kind" 571), (.str "entry" 572)] 0), #[]⟩
noncomputable def o238 (P : Params) : Obj := ⟨(.type "tuple"), none, (.seq #[] 0), #[]⟩
noncomputable def o239 (P : Params) : Obj := ⟨.none, none, (.func ⟨"entry_at", "Walker.entry_at", fnA (at2 32 2), .stmts (fnB (at2 32 2)), fnS (at2 32 2), 0, [], .none, .none, .none, .none, none, .none, .none, 0⟩), #[]⟩
noncomputable def o240 (P : Params) : Obj := ⟨(.type "code"), none, (.fields #[(.str "entry_at" 565), (.str "Walker.entry_at" 566), (.str "/claim/cut.py" 567), (.int 134 0), (.int 4 0), (.int 0 0), (.int 0 0), (.int 3 0), (.ref 235), (.bool true), (.int 181 0), (.ref 236), .none, (.ref 237), (.ref 238), (.ref 239), (.int 573 0), (.int 134 0), (.str "/claim/cut.py" 574)]), #[]⟩
noncomputable def o241 (P : Params) : Obj := ⟨(.type "function"), none, (.func ⟨"entry_at", "Walker.entry_at", fnA (at2 32 2), .stmts (fnB (at2 32 2)), fnS (at2 32 2), 3, [], .none, .none, .none, (.str "pipeboard.paging" 337), none, (.ref 240), .none, 0⟩), #[]⟩
noncomputable def o242 (P : Params) : Obj := ⟨(.type "tuple"), none, (.seq #[] 0), #[]⟩
noncomputable def o243 (P : Params) : Obj := ⟨.none, none, (.fields #[]), #[]⟩
noncomputable def o244 (P : Params) : Obj := ⟨(.type "tuple"), none, (.seq #[(.str "self" 579), (.str "place" 580), (.str "entry" 581), (.str "address" 582), (.str "kind" 583), (.str "mode" 584), (.str "sum_bit" 585), (.str "mxr" 586), (.str "physical" 587)] 0), #[]⟩
noncomputable def o245 (P : Params) : Obj := ⟨(.type "tuple"), none, (.seq #[] 0), #[]⟩
noncomputable def o246 (P : Params) : Obj := ⟨.none, none, (.func ⟨"large_page", "Walker.large_page", fnA (at2 32 3), .stmts (fnB (at2 32 3)), fnS (at2 32 3), 0, [], .none, .none, .none, .none, none, .none, .none, 0⟩), #[]⟩
noncomputable def o247 (P : Params) : Obj := ⟨(.type "code"), none, (.fields #[(.str "large_page" 576), (.str "Walker.large_page" 577), (.str "/claim/cut.py" 578), (.int 143 0), (.int 8 0), (.int 0 0), (.int 0 0), (.int 3 0), (.ref 242), (.bool true), (.int 181 0), (.ref 243), .none, (.ref 244), (.ref 245), (.ref 246), (.int 588 0), (.int 143 0), (.str "/claim/cut.py" 589)]), #[]⟩
noncomputable def o248 (P : Params) : Obj := ⟨(.type "function"), none, (.func ⟨"large_page", "Walker.large_page", fnA (at2 32 3), .stmts (fnB (at2 32 3)), fnS (at2 32 3), 3, [], .none, .none, .none, (.str "pipeboard.paging" 337), none, (.ref 247), .none, 0⟩), #[]⟩
noncomputable def o249 (P : Params) : Obj := ⟨(.type "tuple"), none, (.seq #[] 0), #[]⟩
noncomputable def o250 (P : Params) : Obj := ⟨.none, none, (.fields #[]), #[]⟩
noncomputable def o251 (P : Params) : Obj := ⟨(.type "tuple"), none, (.seq #[(.str "self" 594), (.str "place" 595), (.str "entry" 596), (.str "address" 597), (.str "kind" 598), (.str "due" 599)] 0), #[]⟩
noncomputable def o252 (P : Params) : Obj := ⟨(.type "tuple"), none, (.seq #[] 0), #[]⟩
noncomputable def o253 (P : Params) : Obj := ⟨.none, none, (.func ⟨"mark", "Walker.mark", fnA (at2 32 4), .stmts (fnB (at2 32 4)), fnS (at2 32 4), 0, [], .none, .none, .none, .none, none, .none, .none, 0⟩), #[]⟩
noncomputable def o254 (P : Params) : Obj := ⟨(.type "code"), none, (.fields #[(.str "mark" 591), (.str "Walker.mark" 592), (.str "/claim/cut.py" 593), (.int 150 0), (.int 5 0), (.int 0 0), (.int 0 0), (.int 3 0), (.ref 249), (.bool true), (.int 181 0), (.ref 250), .none, (.ref 251), (.ref 252), (.ref 253), (.int 600 0), (.int 150 0), (.str "/claim/cut.py" 601)]), #[]⟩
noncomputable def o255 (P : Params) : Obj := ⟨(.type "function"), none, (.func ⟨"mark", "Walker.mark", fnA (at2 32 4), .stmts (fnB (at2 32 4)), fnS (at2 32 4), 3, [], .none, .none, .none, (.str "pipeboard.paging" 337), none, (.ref 254), .none, 0⟩), #[]⟩
noncomputable def o256 (P : Params) : Obj := ⟨(.type "tuple"), none, (.seq #[(.int 0 603), (.int 0 604)] 0), #[]⟩
noncomputable def o257 (P : Params) : Obj := ⟨(.type "tuple"), none, (.seq #[] 0), #[]⟩
noncomputable def o258 (P : Params) : Obj := ⟨.none, none, (.fields #[]), #[]⟩
noncomputable def o259 (P : Params) : Obj := ⟨(.type "tuple"), none, (.seq #[(.str "self" 608), (.str "root" 609), (.str "address" 610), (.str "kind" 611), (.str "mode" 612), (.str "sum_bit" 613), (.str "mxr" 614)] 0), #[]⟩
noncomputable def o260 (P : Params) : Obj := ⟨(.type "tuple"), none, (.seq #[] 0), #[]⟩
noncomputable def o261 (P : Params) : Obj := ⟨.none, none, (.func ⟨"probe", "Walker.probe", fnA (at2 32 5), .stmts (fnB (at2 32 5)), fnS (at2 32 5), 0, [], .none, .none, .none, .none, none, .none, .none, 0⟩), #[]⟩
noncomputable def o262 (P : Params) : Obj := ⟨(.type "code"), none, (.fields #[(.str "probe" 605), (.str "Walker.probe" 606), (.str "/claim/cut.py" 607), (.int 158 0), (.int 7 0), (.int 0 0), (.int 0 0), (.int 3 0), (.ref 257), (.bool true), (.int 181 0), (.ref 258), .none, (.ref 259), (.ref 260), (.ref 261), (.int 615 0), (.int 158 0), (.str "/claim/cut.py" 616)]), #[]⟩
noncomputable def o263 (P : Params) : Obj := ⟨(.type "function"), none, (.func ⟨"probe", "Walker.probe", fnA (at2 32 5), .stmts (fnB (at2 32 5)), fnS (at2 32 5), 3, [], (.ref 256), .none, .none, (.str "pipeboard.paging" 337), none, (.ref 262), .none, 0⟩), #[]⟩
noncomputable def o264 (P : Params) : Obj := ⟨(.type "tuple"), none, (.seq #[(.str "bus" 618), (.str "layout" 619)] 0), #[]⟩
noncomputable def o265 (P : Params) : Obj := ⟨(.type "dict"), none, (.dict #[⟨PyData.keyHash P "__module__", (.str "__module__" 533), (.str "pipeboard.paging" 337)⟩, ⟨PyData.keyHash P "__firstlineno__", (.str "__firstlineno__" 537), (.int 113 536)⟩, ⟨PyData.keyHash P "__init__", (.str "__init__" 546), (.ref 226)⟩, ⟨PyData.keyHash P "translate", (.str "translate" 564), (.ref 234)⟩, ⟨PyData.keyHash P "entry_at", (.str "entry_at" 575), (.ref 241)⟩, ⟨PyData.keyHash P "large_page", (.str "large_page" 590), (.ref 248)⟩, ⟨PyData.keyHash P "mark", (.str "mark" 602), (.ref 255)⟩, ⟨PyData.keyHash P "probe", (.str "probe" 617), (.ref 263)⟩, ⟨PyData.keyHash P "__static_attributes__", (.str "__static_attributes__" 620), (.ref 264)⟩, ⟨PyData.keyHash P "__dict__", (.str "__dict__" 622), (.ref 267)⟩, ⟨PyData.keyHash P "__weakref__", (.str "__weakref__" 624), (.ref 268)⟩, ⟨PyData.keyHash P "__doc__", (.str "__doc__" 625), .none⟩] 4), #[]⟩
noncomputable def o266 (P : Params) : Obj := ⟨(.type "type"), none, (.cls ⟨"Walker", [(.type "object")], [(.ref 266), (.type "object")], 265, "Walker", true, [], [], false, none, false⟩), #[none, none, (some (.str "Walker" 526)), (some (.str "Walker" 534)), (some (.builtin "object.__new__")), (some (.bool true))]⟩
noncomputable def o267 (P : Params) : Obj := ⟨(.type "getset_descriptor"), none, (.fields #[(.str "__dict__" 621), (.ref 266), (.builtin "function.__dict__"), (.builtin "function.__dict__#set")]), #[]⟩
noncomputable def o268 (P : Params) : Obj := ⟨(.type "getset_descriptor"), none, (.fields #[(.str "__weakref__" 623), (.ref 266), (.builtin "ExceptionGroup.__weakref__"), .none]), #[]⟩
noncomputable def o269 (P : Params) : Obj := ⟨(.type "super"), none, (.fields #[(.ref 266), (.ref 266), (.ref 266)]), #[]⟩
noncomputable def o270 (P : Params) : Obj := ⟨(.type "builtin_function_or_method"), none, (.fields #[(.builtin "object.__init_subclass__"), (.ref 266)]), #[]⟩
noncomputable def o271 (P : Params) : Obj := ⟨(.type "tuple"), none, (.seq #[] 0), #[]⟩
noncomputable def o272 (P : Params) : Obj := ⟨(.type "builtin_function_or_method"), none, (.fields #[(.builtin "type.__prepare__"), (.type "type")]), #[]⟩
noncomputable def o273 (P : Params) : Obj := ⟨(.type "dict"), none, (.dict #[⟨PyData.keyHash P "__module__", (.str "__module__" 635), (.str "pipeboard.paging" 337)⟩, ⟨PyData.keyHash P "__qualname__", (.str "__qualname__" 637), (.str "Quick" 636)⟩, ⟨PyData.keyHash P "__firstlineno__", (.str "__firstlineno__" 639), (.int 160 638)⟩, ⟨PyData.keyHash P "__init__", (.str "__init__" 649), (.ref 285)⟩, ⟨PyData.keyHash P "translate", (.str "translate" 667), (.ref 293)⟩, ⟨PyData.keyHash P "forget", (.str "forget" 673), (.ref 299)⟩, ⟨PyData.keyHash P "__static_attributes__", (.str "__static_attributes__" 678), (.ref 300)⟩] 7), #[]⟩
noncomputable def o274 (P : Params) : Obj := ⟨(.type "tuple"), none, (.seq #[] 0), #[]⟩
noncomputable def o275 (P : Params) : Obj := ⟨.none, none, (.fields #[(.int 162 0), (.int 4 0), (.ref 284), (.int 170 0), (.int 4 0), (.ref 292), (.int 181 0), (.int 4 0), (.ref 298)]), #[]⟩
noncomputable def o276 (P : Params) : Obj := ⟨(.type "code"), none, (.fields #[(.str "Quick" 630), (.str "Quick" 631), (.str "/claim/cut.py" 632), (.int 160 0), (.int 0 0), (.int 0 0), (.int 0 0), (.int 0 0), (.ref 274), (.bool false), (.int 181 0), (.ref 275), .none, .none, .none, .none, (.int 633 0), (.int 160 0), (.str "/claim/cut.py" 634)]), #[]⟩
noncomputable def o277 (P : Params) : Obj := ⟨(.type "frame"), none, .plain, #[(some (.ref 276)), (some (.ref 3)), (some (.ref 273)), none, (some (.str "pipeboard.paging" 337)), none, (some (.ref 0))]⟩
noncomputable def o278 (P : Params) : Obj := ⟨(.type "tuple"), none, (.seq #[(.int 16 640)] 0), #[]⟩
noncomputable def o279 (P : Params) : Obj := ⟨(.type "tuple"), none, (.seq #[] 0), #[]⟩
noncomputable def o280 (P : Params) : Obj := ⟨.none, none, (.fields #[]), #[]⟩
noncomputable def o281 (P : Params) : Obj := ⟨(.type "tuple"), none, (.seq #[(.str "self" 644), (.str "walker" 645), (.str "room" 646)] 0), #[]⟩
noncomputable def o282 (P : Params) : Obj := ⟨(.type "tuple"), none, (.seq #[] 0), #[]⟩
noncomputable def o283 (P : Params) : Obj := ⟨.none, none, (.func ⟨"__init__", "Quick.__init__", fnA (at2 33 0), .stmts (fnB (at2 33 0)), fnS (at2 33 0), 0, [], .none, .none, .none, .none, none, .none, .none, 0⟩), #[]⟩
noncomputable def o284 (P : Params) : Obj := ⟨(.type "code"), none, (.fields #[(.str "__init__" 641), (.str "Quick.__init__" 642), (.str "/claim/cut.py" 643), (.int 162 0), (.int 3 0), (.int 0 0), (.int 0 0), (.int 3 0), (.ref 279), (.bool true), (.int 181 0), (.ref 280), .none, (.ref 281), (.ref 282), (.ref 283), (.int 647 0), (.int 162 0), (.str "/claim/cut.py" 648)]), #[]⟩
noncomputable def o285 (P : Params) : Obj := ⟨(.type "function"), none, (.func ⟨"__init__", "Quick.__init__", fnA (at2 33 0), .stmts (fnB (at2 33 0)), fnS (at2 33 0), 3, [], (.ref 278), .none, .none, (.str "pipeboard.paging" 337), none, (.ref 284), .none, 0⟩), #[]⟩
noncomputable def o286 (P : Params) : Obj := ⟨(.type "tuple"), none, (.seq #[(.int 0 650), (.int 0 651)] 0), #[]⟩
noncomputable def o287 (P : Params) : Obj := ⟨(.type "tuple"), none, (.seq #[] 0), #[]⟩
noncomputable def o288 (P : Params) : Obj := ⟨.none, none, (.fields #[]), #[]⟩
noncomputable def o289 (P : Params) : Obj := ⟨(.type "tuple"), none, (.seq #[(.str "self" 655), (.str "root" 656), (.str "address" 657), (.str "kind" 658), (.str "mode" 659), (.str "sum_bit" 660), (.str "mxr" 661), (.str "key" 662), (.str "begin" 663), (.str "physical" 664)] 0), #[]⟩
noncomputable def o290 (P : Params) : Obj := ⟨(.type "tuple"), none, (.seq #[] 0), #[]⟩
noncomputable def o291 (P : Params) : Obj := ⟨.none, none, (.func ⟨"translate", "Quick.translate", fnA (at2 33 1), .stmts (fnB (at2 33 1)), fnS (at2 33 1), 0, [], .none, .none, .none, .none, none, .none, .none, 0⟩), #[]⟩
noncomputable def o292 (P : Params) : Obj := ⟨(.type "code"), none, (.fields #[(.str "translate" 652), (.str "Quick.translate" 653), (.str "/claim/cut.py" 654), (.int 170 0), (.int 7 0), (.int 0 0), (.int 0 0), (.int 3 0), (.ref 287), (.bool true), (.int 181 0), (.ref 288), .none, (.ref 289), (.ref 290), (.ref 291), (.int 665 0), (.int 170 0), (.str "/claim/cut.py" 666)]), #[]⟩
noncomputable def o293 (P : Params) : Obj := ⟨(.type "function"), none, (.func ⟨"translate", "Quick.translate", fnA (at2 33 1), .stmts (fnB (at2 33 1)), fnS (at2 33 1), 3, [], (.ref 286), .none, .none, (.str "pipeboard.paging" 337), none, (.ref 292), .none, 0⟩), #[]⟩
noncomputable def o294 (P : Params) : Obj := ⟨(.type "tuple"), none, (.seq #[.none] 0), #[]⟩
noncomputable def o295 (P : Params) : Obj := ⟨(.type "tuple"), none, (.seq #[] 0), #[]⟩
noncomputable def o296 (P : Params) : Obj := ⟨.none, none, (.fields #[]), #[]⟩
noncomputable def o297 (P : Params) : Obj := ⟨.none, none, (.func ⟨"forget", "Quick.forget", fnA (at2 33 2), .stmts (fnB (at2 33 2)), fnS (at2 33 2), 0, [], .none, .none, .none, .none, none, .none, .none, 0⟩), #[]⟩
noncomputable def o298 (P : Params) : Obj := ⟨(.type "code"), none, (.fields #[(.str "forget" 668), (.str "Quick.forget" 669), (.str "/claim/cut.py" 670), (.int 181 0), (.int 2 0), (.int 0 0), (.int 0 0), (.int 3 0), (.ref 295), (.bool true), (.int 181 0), (.ref 296), .none, .none, .none, (.ref 297), (.int 671 0), (.int 181 0), (.str "/claim/cut.py" 672)]), #[]⟩
noncomputable def o299 (P : Params) : Obj := ⟨(.type "function"), none, (.func ⟨"forget", "Quick.forget", fnA (at2 33 2), .stmts (fnB (at2 33 2)), fnS (at2 33 2), 3, [], (.ref 294), .none, .none, (.str "pipeboard.paging" 337), none, (.ref 298), .none, 0⟩), #[]⟩
noncomputable def o300 (P : Params) : Obj := ⟨(.type "tuple"), none, (.seq #[(.str "known" 674), (.str "layout" 675), (.str "room" 676), (.str "walker" 677)] 0), #[]⟩
noncomputable def o301 (P : Params) : Obj := ⟨(.type "dict"), none, (.dict #[⟨PyData.keyHash P "__module__", (.str "__module__" 635), (.str "pipeboard.paging" 337)⟩, ⟨PyData.keyHash P "__firstlineno__", (.str "__firstlineno__" 639), (.int 160 638)⟩, ⟨PyData.keyHash P "__init__", (.str "__init__" 649), (.ref 285)⟩, ⟨PyData.keyHash P "translate", (.str "translate" 667), (.ref 293)⟩, ⟨PyData.keyHash P "forget", (.str "forget" 673), (.ref 299)⟩, ⟨PyData.keyHash P "__static_attributes__", (.str "__static_attributes__" 678), (.ref 300)⟩, ⟨PyData.keyHash P "__dict__", (.str "__dict__" 680), (.ref 303)⟩, ⟨PyData.keyHash P "__weakref__", (.str "__weakref__" 682), (.ref 304)⟩, ⟨PyData.keyHash P "__doc__", (.str "__doc__" 683), .none⟩] 4), #[]⟩
noncomputable def o302 (P : Params) : Obj := ⟨(.type "type"), none, (.cls ⟨"Quick", [(.type "object")], [(.ref 302), (.type "object")], 301, "Quick", true, [], [], false, none, false⟩), #[none, none, (some (.str "Quick" 628)), (some (.str "Quick" 636)), (some (.builtin "object.__new__")), (some (.bool true))]⟩
noncomputable def o303 (P : Params) : Obj := ⟨(.type "getset_descriptor"), none, (.fields #[(.str "__dict__" 679), (.ref 302), (.builtin "function.__dict__"), (.builtin "function.__dict__#set")]), #[]⟩
noncomputable def o304 (P : Params) : Obj := ⟨(.type "getset_descriptor"), none, (.fields #[(.str "__weakref__" 681), (.ref 302), (.builtin "ExceptionGroup.__weakref__"), .none]), #[]⟩
noncomputable def o305 (P : Params) : Obj := ⟨(.type "super"), none, (.fields #[(.ref 302), (.ref 302), (.ref 302)]), #[]⟩
noncomputable def o306 (P : Params) : Obj := ⟨(.type "builtin_function_or_method"), none, (.fields #[(.builtin "object.__init_subclass__"), (.ref 302)]), #[]⟩
noncomputable def o3v7 (P : Params) : Obj := ⟨(.type "dict"), none, (.dict #[⟨PyData.keyHash P "__name__", (.str "__name__" 165), (.str "pipeboard.memory" 917)⟩, ⟨PyData.keyHash P "__doc__", (.str "__doc__" 166), .none⟩, ⟨PyData.keyHash P "__package__", (.str "__package__" 167), .none⟩, ⟨PyData.keyHash P "__loader__", (.str "__loader__" 168), (.builtin "__main__.__loader__#opaque")⟩, ⟨PyData.keyHash P "__spec__", (.str "__spec__" 169), .none⟩, ⟨PyData.keyHash P "__annotations__", (.str "__annotations__" 170), (.ref 6)⟩, ⟨PyData.keyHash P "__builtins__", (.str "__builtins__" 171), (.ref 4)⟩, ⟨PyData.keyHash P "__file__", (.str "__file__" 173), (.str "/claim/cut.py" 172)⟩, ⟨PyData.keyHash P "__cached__", (.str "__cached__" 174), .none⟩, ⟨PyData.keyHash P "_wall", (.str "_wall" 193), (.ref 21)⟩, ⟨PyData.keyHash P "BoardError", (.str "BoardError" 223), (.ref 39)⟩, ⟨PyData.keyHash P "BadArgument", (.str "BadArgument" 239), (.ref 52)⟩, ⟨PyData.keyHash P "BadAddress", (.str "BadAddress" 264), (.ref 71)⟩, ⟨PyData.keyHash P "NoRoom", (.str "NoRoom" 280), (.ref 83)⟩, ⟨PyData.keyHash P "Trap", (.str "Trap" 336), (.ref 103)⟩, ⟨PyData.keyHash P "ENTRY", (.str "ENTRY" 340), (.int 4 339)⟩, ⟨PyData.keyHash P "VALID", (.str "VALID" 342), (.int 1 341)⟩, ⟨PyData.keyHash P "READ", (.str "READ" 344), (.int 2 343)⟩, ⟨PyData.keyHash P "WRITE", (.str "WRITE" 346), (.int 4 345)⟩, ⟨PyData.keyHash P "EXECUTE", (.str "EXECUTE" 348), (.int 8 347)⟩, ⟨PyData.keyHash P "USER", (.str "USER" 350), (.int 16 349)⟩, ⟨PyData.keyHash P "ACCESSED", (.str "ACCESSED" 352), (.int 64 351)⟩, ⟨PyData.keyHash P "DIRTY", (.str "DIRTY" 354), (.int 128 353)⟩, ⟨PyData.keyHash P "LEAF", (.str "LEAF" 356), (.int 10 355)⟩, ⟨PyData.keyHash P "FLAG_BITS", (.str "FLAG_BITS" 358), (.int 10 357)⟩, ⟨PyData.keyHash P "FLAGS", (.str "FLAGS" 363), (.int 1023 362)⟩, ⟨PyData.keyHash P "FLAG_NAMES", (.str "FLAG_NAMES" 365), (.str "vrwxugad" 364)⟩, ⟨PyData.keyHash P "DIGITS", (.str "DIGITS" 367), (.str "0123456789abcdef" 366)⟩, ⟨PyData.keyHash P "FETCH", (.str "FETCH" 369), (.str "fetch" 368)⟩, ⟨PyData.keyHash P "LOAD", (.str "LOAD" 371), (.str "load" 370)⟩, ⟨PyData.keyHash P "STORE", (.str "STORE" 373), (.str "store" 372)⟩, ⟨PyData.keyHash P "PAGE_FAULTS", (.str "PAGE_FAULTS" 380), (.ref 106)⟩, ⟨PyData.keyHash P "ACCESS_FAULTS", (.str "ACCESS_FAULTS" 387), (.ref 107)⟩, ⟨PyData.keyHash P "USER_MODE", (.str "USER_MODE" 389), (.int 0 388)⟩, ⟨PyData.keyHash P "Layout", (.str "Layout" 494), (.ref 182)⟩, ⟨PyData.keyHash P "eight_digits", (.str "eight_digits" 500), (.ref 191)⟩, ⟨PyData.keyHash P "is_leaf", (.str "is_leaf" 507), (.ref 198)⟩, ⟨PyData.keyHash P "is_sound", (.str "is_sound" 514), (.ref 205)⟩, ⟨PyData.keyHash P "may", (.str "may" 525), (.ref 212)⟩, ⟨PyData.keyHash P "Walker", (.str "Walker" 627), (.ref 266)⟩, ⟨PyData.keyHash P "Quick", (.str "Quick" 685), (.ref 302)⟩, ⟨PyData.keyHash P "Tables", (.str "Tables" 916), (.ref 454)⟩, ⟨PyData.keyHash P "WORD", (.str "WORD" 920), (.int 4 919)⟩, ⟨PyData.keyHash P "MASK", (.str "MASK" 926), (.int 4294967295 925)⟩, ⟨PyData.keyHash P "SPACE", (.str "SPACE" 930), (.int 4294967296 929)⟩, ⟨PyData.keyHash P "SIZES", (.str "SIZES" 934), (.ref 459)⟩, ⟨PyData.keyHash P "need_size", (.str "need_size" 941), (.ref 466)⟩] 47), #[]⟩
noncomputable def o12v6 (P : Params) : Obj := ⟨.none, none, (.fields #[(.int 1 0), (.int 0 0), (.ref 20), (.int 5 0), (.int 0 0), (.ref 27), (.int 10 0), (.int 0 0), (.ref 48), (.int 12 0), (.int 0 0), (.ref 60), (.int 17 0), (.int 0 0), (.ref 79), (.int 19 0), (.int 0 0), (.ref 91), (.int 59 0), (.int 0 0), (.ref 113), (.int 97 0), (.int 0 0), (.ref 190), (.int 99 0), (.int 0 0), (.ref 197), (.int 101 0), (.int 0 0), (.ref 204), (.int 103 0), (.int 0 0), (.ref 211), (.int 113 0), (.int 0 0), (.ref 218), (.int 160 0), (.int 0 0), (.ref 276), (.int 187 0), (.int 0 0), (.ref 312), (.int 335 0), (.int 0 0), (.ref 465)]), #[]⟩
noncomputable def o307 (P : Params) : Obj := ⟨(.type "tuple"), none, (.seq #[] 0), #[]⟩
noncomputable def o308 (P : Params) : Obj := ⟨(.type "builtin_function_or_method"), none, (.fields #[(.builtin "type.__prepare__"), (.type "type")]), #[]⟩
noncomputable def o309 (P : Params) : Obj := ⟨(.type "dict"), none, (.dict #[⟨PyData.keyHash P "__module__", (.str "__module__" 693), (.str "pipeboard.paging" 337)⟩, ⟨PyData.keyHash P "__qualname__", (.str "__qualname__" 695), (.str "Tables" 694)⟩, ⟨PyData.keyHash P "__firstlineno__", (.str "__firstlineno__" 697), (.int 187 696)⟩, ⟨PyData.keyHash P "__init__", (.str "__init__" 707), (.ref 320)⟩, ⟨PyData.keyHash P "new_table", (.str "new_table" 715), (.ref 327)⟩, ⟨PyData.keyHash P "need_parts", (.str "need_parts" 724), (.ref 334)⟩, ⟨PyData.keyHash P "walk", (.str "walk" 739), (.ref 342)⟩, ⟨PyData.keyHash P "entry", (.str "entry" 752), (.ref 349)⟩, ⟨PyData.keyHash P "physical", (.str "physical" 765), (.ref 356)⟩, ⟨PyData.keyHash P "need_flags", (.str "need_flags" 773), (.ref 363)⟩, ⟨PyData.keyHash P "map", (.str "map" 784), (.ref 370)⟩, ⟨PyData.keyHash P "map_large", (.str "map_large" 795), (.ref 377)⟩, ⟨PyData.keyHash P "need_place", (.str "need_place" 805), (.ref 384)⟩, ⟨PyData.keyHash P "unmap", (.str "unmap" 814), (.ref 391)⟩, ⟨PyData.keyHash P "change", (.str "change" 826), (.ref 399)⟩, ⟨PyData.keyHash P "move", (.str "move" 839), (.ref 406)⟩, ⟨PyData.keyHash P "tables_of", (.str "tables_of" 850), (.ref 413)⟩, ⟨PyData.keyHash P "rows", (.str "rows" 862), (.ref 420)⟩, ⟨PyData.keyHash P "rows_of", (.str "rows_of" 875), (.ref 427)⟩, ⟨PyData.keyHash P "prune", (.str "prune" 883), (.ref 434)⟩, ⟨PyData.keyHash P "leaves", (.str "leaves" 889), (.ref 439)⟩, ⟨PyData.keyHash P "free", (.str "free" 899), (.ref 446)⟩, ⟨PyData.keyHash P "text", (.str "text" 905), (.ref 451)⟩, ⟨PyData.keyHash P "__static_attributes__", (.str "__static_attributes__" 909), (.ref 452)⟩] 24), #[]⟩
noncomputable def o310 (P : Params) : Obj := ⟨(.type "tuple"), none, (.seq #[] 0), #[]⟩
noncomputable def o311 (P : Params) : Obj := ⟨.none, none, (.fields #[(.int 189 0), (.int 4 0), (.ref 319), (.int 194 0), (.int 4 0), (.ref 326), (.int 199 0), (.int 4 0), (.ref 333), (.int 205 0), (.int 4 0), (.ref 341), (.int 218 0), (.int 4 0), (.ref 348), (.int 226 0), (.int 4 0), (.ref 355), (.int 235 0), (.int 4 0), (.ref 362), (.int 239 0), (.int 4 0), (.ref 369), (.int 247 0), (.int 4 0), (.ref 376), (.int 250 0), (.int 4 0), (.ref 383), (.int 256 0), (.int 4 0), (.ref 390), (.int 259 0), (.int 4 0), (.ref 398), (.int 262 0), (.int 4 0), (.ref 405), (.int 271 0), (.int 4 0), (.ref 412), (.int 279 0), (.int 4 0), (.ref 419), (.int 292 0), (.int 4 0), (.ref 426), (.int 301 0), (.int 4 0), (.ref 433), (.int 304 0), (.int 4 0), (.ref 438), (.int 318 0), (.int 4 0), (.ref 445), (.int 323 0), (.int 4 0), (.ref 450)]), #[]⟩
noncomputable def o312 (P : Params) : Obj := ⟨(.type "code"), none, (.fields #[(.str "Tables" 688), (.str "Tables" 689), (.str "/claim/cut.py" 690), (.int 187 0), (.int 0 0), (.int 0 0), (.int 0 0), (.int 0 0), (.ref 310), (.bool false), (.int 181 0), (.ref 311), .none, .none, .none, .none, (.int 691 0), (.int 187 0), (.str "/claim/cut.py" 692)]), #[]⟩
noncomputable def o313 (P : Params) : Obj := ⟨(.type "frame"), none, .plain, #[(some (.ref 312)), (some (.ref 3)), (some (.ref 309)), none, (some (.str "pipeboard.paging" 337)), none, (some (.ref 0))]⟩
noncomputable def o314 (P : Params) : Obj := ⟨(.type "tuple"), none, (.seq #[] 0), #[]⟩
noncomputable def o315 (P : Params) : Obj := ⟨.none, none, (.fields #[]), #[]⟩
noncomputable def o316 (P : Params) : Obj := ⟨(.type "tuple"), none, (.seq #[(.str "self" 701), (.str "memory" 702), (.str "layout" 703), (.str "pages" 704)] 0), #[]⟩
noncomputable def o317 (P : Params) : Obj := ⟨(.type "tuple"), none, (.seq #[] 0), #[]⟩
noncomputable def o318 (P : Params) : Obj := ⟨.none, none, (.func ⟨"__init__", "Tables.__init__", fnA (at2 34 0), .stmts (fnB (at2 34 0)), fnS (at2 34 0), 0, [], .none, .none, .none, .none, none, .none, .none, 0⟩), #[]⟩
noncomputable def o319 (P : Params) : Obj := ⟨(.type "code"), none, (.fields #[(.str "__init__" 698), (.str "Tables.__init__" 699), (.str "/claim/cut.py" 700), (.int 189 0), (.int 4 0), (.int 0 0), (.int 0 0), (.int 3 0), (.ref 314), (.bool true), (.int 181 0), (.ref 315), .none, (.ref 316), (.ref 317), (.ref 318), (.int 705 0), (.int 189 0), (.str "/claim/cut.py" 706)]), #[]⟩
noncomputable def o320 (P : Params) : Obj := ⟨(.type "function"), none, (.func ⟨"__init__", "Tables.__init__", fnA (at2 34 0), .stmts (fnB (at2 34 0)), fnS (at2 34 0), 3, [], .none, .none, .none, (.str "pipeboard.paging" 337), none, (.ref 319), .none, 0⟩), #[]⟩
noncomputable def o321 (P : Params) : Obj := ⟨(.type "tuple"), none, (.seq #[] 0), #[]⟩
noncomputable def o322 (P : Params) : Obj := ⟨.none, none, (.fields #[]), #[]⟩
noncomputable def o323 (P : Params) : Obj := ⟨(.type "tuple"), none, (.seq #[(.str "self" 711), (.str "page" 712)] 0), #[]⟩
noncomputable def o324 (P : Params) : Obj := ⟨(.type "tuple"), none, (.seq #[] 0), #[]⟩
noncomputable def o325 (P : Params) : Obj := ⟨.none, none, (.func ⟨"new_table", "Tables.new_table", fnA (at2 34 1), .stmts (fnB (at2 34 1)), fnS (at2 34 1), 0, [], .none, .none, .none, .none, none, .none, .none, 0⟩), #[]⟩
noncomputable def o326 (P : Params) : Obj := ⟨(.type "code"), none, (.fields #[(.str "new_table" 708), (.str "Tables.new_table" 709), (.str "/claim/cut.py" 710), (.int 194 0), (.int 1 0), (.int 0 0), (.int 0 0), (.int 3 0), (.ref 321), (.bool true), (.int 181 0), (.ref 322), .none, (.ref 323), (.ref 324), (.ref 325), (.int 713 0), (.int 194 0), (.str "/claim/cut.py" 714)]), #[]⟩
noncomputable def o327 (P : Params) : Obj := ⟨(.type "function"), none, (.func ⟨"new_table", "Tables.new_table", fnA (at2 34 1), .stmts (fnB (at2 34 1)), fnS (at2 34 1), 3, [], .none, .none, .none, (.str "pipeboard.paging" 337), none, (.ref 326), .none, 0⟩), #[]⟩
noncomputable def o328 (P : Params) : Obj := ⟨(.type "tuple"), none, (.seq #[] 0), #[]⟩
noncomputable def o329 (P : Params) : Obj := ⟨.none, none, (.fields #[]), #[]⟩
noncomputable def o330 (P : Params) : Obj := ⟨(.type "tuple"), none, (.seq #[(.str "self" 719), (.str "address" 720), (.str "parts" 721)] 0), #[]⟩
noncomputable def o331 (P : Params) : Obj := ⟨(.type "tuple"), none, (.seq #[] 0), #[]⟩
noncomputable def o332 (P : Params) : Obj := ⟨.none, none, (.func ⟨"need_parts", "Tables.need_parts", fnA (at2 34 2), .stmts (fnB (at2 34 2)), fnS (at2 34 2), 0, [], .none, .none, .none, .none, none, .none, .none, 0⟩), #[]⟩
noncomputable def o333 (P : Params) : Obj := ⟨(.type "code"), none, (.fields #[(.str "need_parts" 716), (.str "Tables.need_parts" 717), (.str "/claim/cut.py" 718), (.int 199 0), (.int 2 0), (.int 0 0), (.int 0 0), (.int 3 0), (.ref 328), (.bool true), (.int 181 0), (.ref 329), .none, (.ref 330), (.ref 331), (.ref 332), (.int 722 0), (.int 199 0), (.str "/claim/cut.py" 723)]), #[]⟩
noncomputable def o334 (P : Params) : Obj := ⟨(.type "function"), none, (.func ⟨"need_parts", "Tables.need_parts", fnA (at2 34 2), .stmts (fnB (at2 34 2)), fnS (at2 34 2), 3, [], .none, .none, .none, (.str "pipeboard.paging" 337), none, (.ref 333), .none, 0⟩), #[]⟩
noncomputable def o335 (P : Params) : Obj := ⟨(.type "tuple"), none, (.seq #[(.bool false)] 0), #[]⟩
noncomputable def o336 (P : Params) : Obj := ⟨(.type "tuple"), none, (.seq #[] 0), #[]⟩
noncomputable def o337 (P : Params) : Obj := ⟨.none, none, (.fields #[]), #[]⟩
noncomputable def o338 (P : Params) : Obj := ⟨(.type "tuple"), none, (.seq #[(.str "self" 728), (.str "root" 729), (.str "address" 730), (.str "make" 731), (.str "first" 732), (.str "second" 733), (.str "offset" 734), (.str "place" 735), (.str "entry" 736)] 0), #[]⟩
noncomputable def o339 (P : Params) : Obj := ⟨(.type "tuple"), none, (.seq #[] 0), #[]⟩
noncomputable def o340 (P : Params) : Obj := ⟨.none, none, (.func ⟨"walk", "Tables.walk", fnA (at2 34 3), .stmts (fnB (at2 34 3)), fnS (at2 34 3), 0, [], .none, .none, .none, .none, none, .none, .none, 0⟩), #[]⟩
noncomputable def o341 (P : Params) : Obj := ⟨(.type "code"), none, (.fields #[(.str "walk" 725), (.str "Tables.walk" 726), (.str "/claim/cut.py" 727), (.int 205 0), (.int 4 0), (.int 0 0), (.int 0 0), (.int 3 0), (.ref 336), (.bool true), (.int 181 0), (.ref 337), .none, (.ref 338), (.ref 339), (.ref 340), (.int 737 0), (.int 205 0), (.str "/claim/cut.py" 738)]), #[]⟩
noncomputable def o342 (P : Params) : Obj := ⟨(.type "function"), none, (.func ⟨"walk", "Tables.walk", fnA (at2 34 3), .stmts (fnB (at2 34 3)), fnS (at2 34 3), 3, [], (.ref 335), .none, .none, (.str "pipeboard.paging" 337), none, (.ref 341), .none, 0⟩), #[]⟩
noncomputable def o343 (P : Params) : Obj := ⟨(.type "tuple"), none, (.seq #[] 0), #[]⟩
noncomputable def o344 (P : Params) : Obj := ⟨.none, none, (.fields #[]), #[]⟩
noncomputable def o345 (P : Params) : Obj := ⟨(.type "tuple"), none, (.seq #[(.str "self" 743), (.str "root" 744), (.str "address" 745), (.str "first" 746), (.str "second" 747), (.str "offset" 748), (.str "entry" 749)] 0), #[]⟩
noncomputable def o346 (P : Params) : Obj := ⟨(.type "tuple"), none, (.seq #[] 0), #[]⟩
noncomputable def o347 (P : Params) : Obj := ⟨.none, none, (.func ⟨"entry", "Tables.entry", fnA (at2 34 4), .stmts (fnB (at2 34 4)), fnS (at2 34 4), 0, [], .none, .none, .none, .none, none, .none, .none, 0⟩), #[]⟩
noncomputable def o348 (P : Params) : Obj := ⟨(.type "code"), none, (.fields #[(.str "entry" 740), (.str "Tables.entry" 741), (.str "/claim/cut.py" 742), (.int 218 0), (.int 3 0), (.int 0 0), (.int 0 0), (.int 3 0), (.ref 343), (.bool true), (.int 181 0), (.ref 344), .none, (.ref 345), (.ref 346), (.ref 347), (.int 750 0), (.int 218 0), (.str "/claim/cut.py" 751)]), #[]⟩
noncomputable def o349 (P : Params) : Obj := ⟨(.type "function"), none, (.func ⟨"entry", "Tables.entry", fnA (at2 34 4), .stmts (fnB (at2 34 4)), fnS (at2 34 4), 3, [], .none, .none, .none, (.str "pipeboard.paging" 337), none, (.ref 348), .none, 0⟩), #[]⟩
noncomputable def o350 (P : Params) : Obj := ⟨(.type "tuple"), none, (.seq #[] 0), #[]⟩
noncomputable def o351 (P : Params) : Obj := ⟨.none, none, (.fields #[]), #[]⟩
noncomputable def o352 (P : Params) : Obj := ⟨(.type "tuple"), none, (.seq #[(.str "self" 756), (.str "root" 757), (.str "address" 758), (.str "first" 759), (.str "second" 760), (.str "offset" 761), (.str "entry" 762)] 0), #[]⟩
noncomputable def o353 (P : Params) : Obj := ⟨(.type "tuple"), none, (.seq #[] 0), #[]⟩
noncomputable def o354 (P : Params) : Obj := ⟨.none, none, (.func ⟨"physical", "Tables.physical", fnA (at2 34 5), .stmts (fnB (at2 34 5)), fnS (at2 34 5), 0, [], .none, .none, .none, .none, none, .none, .none, 0⟩), #[]⟩
noncomputable def o355 (P : Params) : Obj := ⟨(.type "code"), none, (.fields #[(.str "physical" 753), (.str "Tables.physical" 754), (.str "/claim/cut.py" 755), (.int 226 0), (.int 3 0), (.int 0 0), (.int 0 0), (.int 3 0), (.ref 350), (.bool true), (.int 181 0), (.ref 351), .none, (.ref 352), (.ref 353), (.ref 354), (.int 763 0), (.int 226 0), (.str "/claim/cut.py" 764)]), #[]⟩
noncomputable def o356 (P : Params) : Obj := ⟨(.type "function"), none, (.func ⟨"physical", "Tables.physical", fnA (at2 34 5), .stmts (fnB (at2 34 5)), fnS (at2 34 5), 3, [], .none, .none, .none, (.str "pipeboard.paging" 337), none, (.ref 355), .none, 0⟩), #[]⟩
noncomputable def o357 (P : Params) : Obj := ⟨(.type "tuple"), none, (.seq #[] 0), #[]⟩
noncomputable def o358 (P : Params) : Obj := ⟨.none, none, (.fields #[]), #[]⟩
noncomputable def o359 (P : Params) : Obj := ⟨(.type "tuple"), none, (.seq #[(.str "self" 769), (.str "flags" 770)] 0), #[]⟩
noncomputable def o360 (P : Params) : Obj := ⟨(.type "tuple"), none, (.seq #[] 0), #[]⟩
noncomputable def o361 (P : Params) : Obj := ⟨.none, none, (.func ⟨"need_flags", "Tables.need_flags", fnA (at2 34 6), .stmts (fnB (at2 34 6)), fnS (at2 34 6), 0, [], .none, .none, .none, .none, none, .none, .none, 0⟩), #[]⟩
noncomputable def o362 (P : Params) : Obj := ⟨(.type "code"), none, (.fields #[(.str "need_flags" 766), (.str "Tables.need_flags" 767), (.str "/claim/cut.py" 768), (.int 235 0), (.int 2 0), (.int 0 0), (.int 0 0), (.int 3 0), (.ref 357), (.bool true), (.int 181 0), (.ref 358), .none, (.ref 359), (.ref 360), (.ref 361), (.int 771 0), (.int 235 0), (.str "/claim/cut.py" 772)]), #[]⟩
noncomputable def o363 (P : Params) : Obj := ⟨(.type "function"), none, (.func ⟨"need_flags", "Tables.need_flags", fnA (at2 34 6), .stmts (fnB (at2 34 6)), fnS (at2 34 6), 3, [], .none, .none, .none, (.str "pipeboard.paging" 337), none, (.ref 362), .none, 0⟩), #[]⟩
noncomputable def o364 (P : Params) : Obj := ⟨(.type "tuple"), none, (.seq #[] 0), #[]⟩
noncomputable def o365 (P : Params) : Obj := ⟨.none, none, (.fields #[]), #[]⟩
noncomputable def o366 (P : Params) : Obj := ⟨(.type "tuple"), none, (.seq #[(.str "self" 777), (.str "root" 778), (.str "address" 779), (.str "physical" 780), (.str "flags" 781)] 0), #[]⟩
noncomputable def o367 (P : Params) : Obj := ⟨(.type "tuple"), none, (.seq #[] 0), #[]⟩
noncomputable def o368 (P : Params) : Obj := ⟨.none, none, (.func ⟨"map", "Tables.map", fnA (at2 34 7), .stmts (fnB (at2 34 7)), fnS (at2 34 7), 0, [], .none, .none, .none, .none, none, .none, .none, 0⟩), #[]⟩
noncomputable def o369 (P : Params) : Obj := ⟨(.type "code"), none, (.fields #[(.str "map" 774), (.str "Tables.map" 775), (.str "/claim/cut.py" 776), (.int 239 0), (.int 5 0), (.int 0 0), (.int 0 0), (.int 3 0), (.ref 364), (.bool true), (.int 181 0), (.ref 365), .none, (.ref 366), (.ref 367), (.ref 368), (.int 782 0), (.int 239 0), (.str "/claim/cut.py" 783)]), #[]⟩
noncomputable def o370 (P : Params) : Obj := ⟨(.type "function"), none, (.func ⟨"map", "Tables.map", fnA (at2 34 7), .stmts (fnB (at2 34 7)), fnS (at2 34 7), 3, [], .none, .none, .none, (.str "pipeboard.paging" 337), none, (.ref 369), .none, 0⟩), #[]⟩
noncomputable def o371 (P : Params) : Obj := ⟨(.type "tuple"), none, (.seq #[] 0), #[]⟩
noncomputable def o372 (P : Params) : Obj := ⟨.none, none, (.fields #[]), #[]⟩
noncomputable def o373 (P : Params) : Obj := ⟨(.type "tuple"), none, (.seq #[(.str "self" 788), (.str "root" 789), (.str "address" 790), (.str "physical" 791), (.str "flags" 792)] 0), #[]⟩
noncomputable def o374 (P : Params) : Obj := ⟨(.type "tuple"), none, (.seq #[] 0), #[]⟩
noncomputable def o375 (P : Params) : Obj := ⟨.none, none, (.func ⟨"map_large", "Tables.map_large", fnA (at2 34 8), .stmts (fnB (at2 34 8)), fnS (at2 34 8), 0, [], .none, .none, .none, .none, none, .none, .none, 0⟩), #[]⟩
noncomputable def o376 (P : Params) : Obj := ⟨(.type "code"), none, (.fields #[(.str "map_large" 785), (.str "Tables.map_large" 786), (.str "/claim/cut.py" 787), (.int 247 0), (.int 5 0), (.int 0 0), (.int 0 0), (.int 3 0), (.ref 371), (.bool true), (.int 181 0), (.ref 372), .none, (.ref 373), (.ref 374), (.ref 375), (.int 793 0), (.int 247 0), (.str "/claim/cut.py" 794)]), #[]⟩
noncomputable def o377 (P : Params) : Obj := ⟨(.type "function"), none, (.func ⟨"map_large", "Tables.map_large", fnA (at2 34 8), .stmts (fnB (at2 34 8)), fnS (at2 34 8), 3, [], .none, .none, .none, (.str "pipeboard.paging" 337), none, (.ref 376), .none, 0⟩), #[]⟩
noncomputable def o378 (P : Params) : Obj := ⟨(.type "tuple"), none, (.seq #[] 0), #[]⟩
noncomputable def o379 (P : Params) : Obj := ⟨.none, none, (.fields #[]), #[]⟩
noncomputable def o380 (P : Params) : Obj := ⟨(.type "tuple"), none, (.seq #[(.str "self" 799), (.str "root" 800), (.str "address" 801), (.str "place" 802)] 0), #[]⟩
noncomputable def o381 (P : Params) : Obj := ⟨(.type "tuple"), none, (.seq #[] 0), #[]⟩
noncomputable def o382 (P : Params) : Obj := ⟨.none, none, (.func ⟨"need_place", "Tables.need_place", fnA (at2 34 9), .stmts (fnB (at2 34 9)), fnS (at2 34 9), 0, [], .none, .none, .none, .none, none, .none, .none, 0⟩), #[]⟩
noncomputable def o383 (P : Params) : Obj := ⟨(.type "code"), none, (.fields #[(.str "need_place" 796), (.str "Tables.need_place" 797), (.str "/claim/cut.py" 798), (.int 250 0), (.int 3 0), (.int 0 0), (.int 0 0), (.int 3 0), (.ref 378), (.bool true), (.int 181 0), (.ref 379), .none, (.ref 380), (.ref 381), (.ref 382), (.int 803 0), (.int 250 0), (.str "/claim/cut.py" 804)]), #[]⟩
noncomputable def o384 (P : Params) : Obj := ⟨(.type "function"), none, (.func ⟨"need_place", "Tables.need_place", fnA (at2 34 9), .stmts (fnB (at2 34 9)), fnS (at2 34 9), 3, [], .none, .none, .none, (.str "pipeboard.paging" 337), none, (.ref 383), .none, 0⟩), #[]⟩
noncomputable def o385 (P : Params) : Obj := ⟨(.type "tuple"), none, (.seq #[] 0), #[]⟩
noncomputable def o386 (P : Params) : Obj := ⟨.none, none, (.fields #[]), #[]⟩
noncomputable def o387 (P : Params) : Obj := ⟨(.type "tuple"), none, (.seq #[(.str "self" 809), (.str "root" 810), (.str "address" 811)] 0), #[]⟩
noncomputable def o388 (P : Params) : Obj := ⟨(.type "tuple"), none, (.seq #[] 0), #[]⟩
noncomputable def o389 (P : Params) : Obj := ⟨.none, none, (.func ⟨"unmap", "Tables.unmap", fnA (at2 34 10), .stmts (fnB (at2 34 10)), fnS (at2 34 10), 0, [], .none, .none, .none, .none, none, .none, .none, 0⟩), #[]⟩
noncomputable def o390 (P : Params) : Obj := ⟨(.type "code"), none, (.fields #[(.str "unmap" 806), (.str "Tables.unmap" 807), (.str "/claim/cut.py" 808), (.int 256 0), (.int 3 0), (.int 0 0), (.int 0 0), (.int 3 0), (.ref 385), (.bool true), (.int 181 0), (.ref 386), .none, (.ref 387), (.ref 388), (.ref 389), (.int 812 0), (.int 256 0), (.str "/claim/cut.py" 813)]), #[]⟩
noncomputable def o391 (P : Params) : Obj := ⟨(.type "function"), none, (.func ⟨"unmap", "Tables.unmap", fnA (at2 34 10), .stmts (fnB (at2 34 10)), fnS (at2 34 10), 3, [], .none, .none, .none, (.str "pipeboard.paging" 337), none, (.ref 390), .none, 0⟩), #[]⟩
noncomputable def o392 (P : Params) : Obj := ⟨(.type "tuple"), none, (.seq #[(.int 0 815)] 0), #[]⟩
noncomputable def o393 (P : Params) : Obj := ⟨(.type "tuple"), none, (.seq #[] 0), #[]⟩
noncomputable def o394 (P : Params) : Obj := ⟨.none, none, (.fields #[]), #[]⟩
noncomputable def o395 (P : Params) : Obj := ⟨(.type "tuple"), none, (.seq #[(.str "self" 819), (.str "root" 820), (.str "address" 821), (.str "add" 822), (.str "take" 823)] 0), #[]⟩
noncomputable def o396 (P : Params) : Obj := ⟨(.type "tuple"), none, (.seq #[] 0), #[]⟩
noncomputable def o397 (P : Params) : Obj := ⟨.none, none, (.func ⟨"change", "Tables.change", fnA (at2 34 11), .stmts (fnB (at2 34 11)), fnS (at2 34 11), 0, [], .none, .none, .none, .none, none, .none, .none, 0⟩), #[]⟩
noncomputable def o398 (P : Params) : Obj := ⟨(.type "code"), none, (.fields #[(.str "change" 816), (.str "Tables.change" 817), (.str "/claim/cut.py" 818), (.int 259 0), (.int 5 0), (.int 0 0), (.int 0 0), (.int 3 0), (.ref 393), (.bool true), (.int 181 0), (.ref 394), .none, (.ref 395), (.ref 396), (.ref 397), (.int 824 0), (.int 259 0), (.str "/claim/cut.py" 825)]), #[]⟩
noncomputable def o399 (P : Params) : Obj := ⟨(.type "function"), none, (.func ⟨"change", "Tables.change", fnA (at2 34 11), .stmts (fnB (at2 34 11)), fnS (at2 34 11), 3, [], (.ref 392), .none, .none, (.str "pipeboard.paging" 337), none, (.ref 398), .none, 0⟩), #[]⟩
noncomputable def o400 (P : Params) : Obj := ⟨(.type "tuple"), none, (.seq #[] 0), #[]⟩
noncomputable def o401 (P : Params) : Obj := ⟨.none, none, (.fields #[]), #[]⟩
noncomputable def o402 (P : Params) : Obj := ⟨(.type "tuple"), none, (.seq #[(.str "self" 830), (.str "root" 831), (.str "address" 832), (.str "physical" 833), (.str "flags" 834), (.str "place" 835), (.str "found" 836)] 0), #[]⟩
noncomputable def o403 (P : Params) : Obj := ⟨(.type "tuple"), none, (.seq #[] 0), #[]⟩
noncomputable def o404 (P : Params) : Obj := ⟨.none, none, (.func ⟨"move", "Tables.move", fnA (at2 34 12), .stmts (fnB (at2 34 12)), fnS (at2 34 12), 0, [], .none, .none, .none, .none, none, .none, .none, 0⟩), #[]⟩
noncomputable def o405 (P : Params) : Obj := ⟨(.type "code"), none, (.fields #[(.str "move" 827), (.str "Tables.move" 828), (.str "/claim/cut.py" 829), (.int 262 0), (.int 5 0), (.int 0 0), (.int 0 0), (.int 3 0), (.ref 400), (.bool true), (.int 181 0), (.ref 401), .none, (.ref 402), (.ref 403), (.ref 404), (.int 837 0), (.int 262 0), (.str "/claim/cut.py" 838)]), #[]⟩
noncomputable def o406 (P : Params) : Obj := ⟨(.type "function"), none, (.func ⟨"move", "Tables.move", fnA (at2 34 12), .stmts (fnB (at2 34 12)), fnS (at2 34 12), 3, [], .none, .none, .none, (.str "pipeboard.paging" 337), none, (.ref 405), .none, 0⟩), #[]⟩
noncomputable def o407 (P : Params) : Obj := ⟨(.type "tuple"), none, (.seq #[] 0), #[]⟩
noncomputable def o408 (P : Params) : Obj := ⟨.none, none, (.fields #[]), #[]⟩
noncomputable def o409 (P : Params) : Obj := ⟨(.type "tuple"), none, (.seq #[(.str "self" 843), (.str "root" 844), (.str "found" 845), (.str "first" 846), (.str "entry" 847)] 0), #[]⟩
noncomputable def o410 (P : Params) : Obj := ⟨(.type "tuple"), none, (.seq #[] 0), #[]⟩
noncomputable def o411 (P : Params) : Obj := ⟨.none, none, (.func ⟨"tables_of", "Tables.tables_of", fnA (at2 34 13), .stmts (fnB (at2 34 13)), fnS (at2 34 13), 0, [], .none, .none, .none, .none, none, .none, .none, 0⟩), #[]⟩
noncomputable def o412 (P : Params) : Obj := ⟨(.type "code"), none, (.fields #[(.str "tables_of" 840), (.str "Tables.tables_of" 841), (.str "/claim/cut.py" 842), (.int 271 0), (.int 2 0), (.int 0 0), (.int 0 0), (.int 3 0), (.ref 407), (.bool true), (.int 181 0), (.ref 408), .none, (.ref 409), (.ref 410), (.ref 411), (.int 848 0), (.int 271 0), (.str "/claim/cut.py" 849)]), #[]⟩
noncomputable def o413 (P : Params) : Obj := ⟨(.type "function"), none, (.func ⟨"tables_of", "Tables.tables_of", fnA (at2 34 13), .stmts (fnB (at2 34 13)), fnS (at2 34 13), 3, [], .none, .none, .none, (.str "pipeboard.paging" 337), none, (.ref 412), .none, 0⟩), #[]⟩
noncomputable def o414 (P : Params) : Obj := ⟨(.type "tuple"), none, (.seq #[] 0), #[]⟩
noncomputable def o415 (P : Params) : Obj := ⟨.none, none, (.fields #[]), #[]⟩
noncomputable def o416 (P : Params) : Obj := ⟨(.type "tuple"), none, (.seq #[(.str "self" 854), (.str "root" 855), (.str "found" 856), (.str "first" 857), (.str "entry" 858), (.str "row" 859)] 0), #[]⟩
noncomputable def o417 (P : Params) : Obj := ⟨(.type "tuple"), none, (.seq #[] 0), #[]⟩
noncomputable def o418 (P : Params) : Obj := ⟨.none, none, (.func ⟨"rows", "Tables.rows", fnA (at2 34 14), .stmts (fnB (at2 34 14)), fnS (at2 34 14), 0, [], .none, .none, .none, .none, none, .none, .none, 0⟩), #[]⟩
noncomputable def o419 (P : Params) : Obj := ⟨(.type "code"), none, (.fields #[(.str "rows" 851), (.str "Tables.rows" 852), (.str "/claim/cut.py" 853), (.int 279 0), (.int 2 0), (.int 0 0), (.int 0 0), (.int 3 0), (.ref 414), (.bool true), (.int 181 0), (.ref 415), .none, (.ref 416), (.ref 417), (.ref 418), (.int 860 0), (.int 279 0), (.str "/claim/cut.py" 861)]), #[]⟩
noncomputable def o420 (P : Params) : Obj := ⟨(.type "function"), none, (.func ⟨"rows", "Tables.rows", fnA (at2 34 14), .stmts (fnB (at2 34 14)), fnS (at2 34 14), 3, [], .none, .none, .none, (.str "pipeboard.paging" 337), none, (.ref 419), .none, 0⟩), #[]⟩
noncomputable def o421 (P : Params) : Obj := ⟨(.type "tuple"), none, (.seq #[] 0), #[]⟩
noncomputable def o422 (P : Params) : Obj := ⟨.none, none, (.fields #[]), #[]⟩
noncomputable def o423 (P : Params) : Obj := ⟨(.type "tuple"), none, (.seq #[(.str "self" 866), (.str "table" 867), (.str "first" 868), (.str "found" 869), (.str "second" 870), (.str "entry" 871), (.str "address" 872)] 0), #[]⟩
noncomputable def o424 (P : Params) : Obj := ⟨(.type "tuple"), none, (.seq #[] 0), #[]⟩
noncomputable def o425 (P : Params) : Obj := ⟨.none, none, (.func ⟨"rows_of", "Tables.rows_of", fnA (at2 34 15), .stmts (fnB (at2 34 15)), fnS (at2 34 15), 0, [], .none, .none, .none, .none, none, .none, .none, 0⟩), #[]⟩
noncomputable def o426 (P : Params) : Obj := ⟨(.type "code"), none, (.fields #[(.str "rows_of" 863), (.str "Tables.rows_of" 864), (.str "/claim/cut.py" 865), (.int 292 0), (.int 3 0), (.int 0 0), (.int 0 0), (.int 3 0), (.ref 421), (.bool true), (.int 181 0), (.ref 422), .none, (.ref 423), (.ref 424), (.ref 425), (.int 873 0), (.int 292 0), (.str "/claim/cut.py" 874)]), #[]⟩
noncomputable def o427 (P : Params) : Obj := ⟨(.type "function"), none, (.func ⟨"rows_of", "Tables.rows_of", fnA (at2 34 15), .stmts (fnB (at2 34 15)), fnS (at2 34 15), 3, [], .none, .none, .none, (.str "pipeboard.paging" 337), none, (.ref 426), .none, 0⟩), #[]⟩
noncomputable def o428 (P : Params) : Obj := ⟨(.type "tuple"), none, (.seq #[] 0), #[]⟩
noncomputable def o429 (P : Params) : Obj := ⟨.none, none, (.fields #[]), #[]⟩
noncomputable def o430 (P : Params) : Obj := ⟨(.type "tuple"), none, (.seq #[(.str "self" 879), (.str "root" 880)] 0), #[]⟩
noncomputable def o431 (P : Params) : Obj := ⟨(.type "tuple"), none, (.seq #[] 0), #[]⟩
noncomputable def o432 (P : Params) : Obj := ⟨.none, none, (.func ⟨"prune", "Tables.prune", fnA (at2 34 16), .stmts (fnB (at2 34 16)), fnS (at2 34 16), 0, [], .none, .none, .none, .none, none, .none, .none, 0⟩), #[]⟩
noncomputable def o433 (P : Params) : Obj := ⟨(.type "code"), none, (.fields #[(.str "prune" 876), (.str "Tables.prune" 877), (.str "/claim/cut.py" 878), (.int 301 0), (.int 2 0), (.int 0 0), (.int 0 0), (.int 3 0), (.ref 428), (.bool true), (.int 181 0), (.ref 429), .none, (.ref 430), (.ref 431), (.ref 432), (.int 881 0), (.int 301 0), (.str "/claim/cut.py" 882)]), #[]⟩
noncomputable def o434 (P : Params) : Obj := ⟨(.type "function"), none, (.func ⟨"prune", "Tables.prune", fnA (at2 34 16), .stmts (fnB (at2 34 16)), fnS (at2 34 16), 3, [], .none, .none, .none, (.str "pipeboard.paging" 337), none, (.ref 433), .none, 0⟩), #[]⟩
noncomputable def o435 (P : Params) : Obj := ⟨(.type "tuple"), none, (.seq #[] 0), #[]⟩
noncomputable def o436 (P : Params) : Obj := ⟨.none, none, (.fields #[]), #[]⟩
noncomputable def o437 (P : Params) : Obj := ⟨.none, none, (.func ⟨"leaves", "Tables.leaves", fnA (at2 34 17), .stmts (fnB (at2 34 17)), fnS (at2 34 17), 0, [], .none, .none, .none, .none, none, .none, .none, 0⟩), #[]⟩
noncomputable def o438 (P : Params) : Obj := ⟨(.type "code"), none, (.fields #[(.str "leaves" 884), (.str "Tables.leaves" 885), (.str "/claim/cut.py" 886), (.int 304 0), (.int 2 0), (.int 0 0), (.int 0 0), (.int 3 0), (.ref 435), (.bool true), (.int 181 0), (.ref 436), .none, .none, .none, (.ref 437), (.int 887 0), (.int 304 0), (.str "/claim/cut.py" 888)]), #[]⟩
noncomputable def o439 (P : Params) : Obj := ⟨(.type "function"), none, (.func ⟨"leaves", "Tables.leaves", fnA (at2 34 17), .stmts (fnB (at2 34 17)), fnS (at2 34 17), 3, [], .none, .none, .none, (.str "pipeboard.paging" 337), none, (.ref 438), .none, 0⟩), #[]⟩
noncomputable def o440 (P : Params) : Obj := ⟨(.type "tuple"), none, (.seq #[] 0), #[]⟩
noncomputable def o441 (P : Params) : Obj := ⟨.none, none, (.fields #[]), #[]⟩
noncomputable def o442 (P : Params) : Obj := ⟨(.type "tuple"), none, (.seq #[(.str "self" 893), (.str "root" 894), (.str "first" 895), (.str "table" 896)] 0), #[]⟩
noncomputable def o443 (P : Params) : Obj := ⟨(.type "tuple"), none, (.seq #[] 0), #[]⟩
noncomputable def o444 (P : Params) : Obj := ⟨.none, none, (.func ⟨"free", "Tables.free", fnA (at2 34 18), .stmts (fnB (at2 34 18)), fnS (at2 34 18), 0, [], .none, .none, .none, .none, none, .none, .none, 0⟩), #[]⟩
noncomputable def o445 (P : Params) : Obj := ⟨(.type "code"), none, (.fields #[(.str "free" 890), (.str "Tables.free" 891), (.str "/claim/cut.py" 892), (.int 318 0), (.int 2 0), (.int 0 0), (.int 0 0), (.int 3 0), (.ref 440), (.bool true), (.int 181 0), (.ref 441), .none, (.ref 442), (.ref 443), (.ref 444), (.int 897 0), (.int 318 0), (.str "/claim/cut.py" 898)]), #[]⟩
noncomputable def o446 (P : Params) : Obj := ⟨(.type "function"), none, (.func ⟨"free", "Tables.free", fnA (at2 34 18), .stmts (fnB (at2 34 18)), fnS (at2 34 18), 3, [], .none, .none, .none, (.str "pipeboard.paging" 337), none, (.ref 445), .none, 0⟩), #[]⟩
noncomputable def o447 (P : Params) : Obj := ⟨(.type "tuple"), none, (.seq #[] 0), #[]⟩
noncomputable def o448 (P : Params) : Obj := ⟨.none, none, (.fields #[]), #[]⟩
noncomputable def o449 (P : Params) : Obj := ⟨.none, none, (.func ⟨"text", "Tables.text", fnA (at2 34 19), .stmts (fnB (at2 34 19)), fnS (at2 34 19), 0, [], .none, .none, .none, .none, none, .none, .none, 0⟩), #[]⟩
noncomputable def o450 (P : Params) : Obj := ⟨(.type "code"), none, (.fields #[(.str "text" 900), (.str "Tables.text" 901), (.str "/claim/cut.py" 902), (.int 323 0), (.int 2 0), (.int 0 0), (.int 0 0), (.int 3 0), (.ref 447), (.bool true), (.int 181 0), (.ref 448), .none, .none, .none, (.ref 449), (.int 903 0), (.int 323 0), (.str "/claim/cut.py" 904)]), #[]⟩
noncomputable def o451 (P : Params) : Obj := ⟨(.type "function"), none, (.func ⟨"text", "Tables.text", fnA (at2 34 19), .stmts (fnB (at2 34 19)), fnS (at2 34 19), 3, [], .none, .none, .none, (.str "pipeboard.paging" 337), none, (.ref 450), .none, 0⟩), #[]⟩
noncomputable def o452 (P : Params) : Obj := ⟨(.type "tuple"), none, (.seq #[(.str "layout" 906), (.str "memory" 907), (.str "pages" 908)] 0), #[]⟩
noncomputable def o453 (P : Params) : Obj := ⟨(.type "dict"), none, (.dict #[⟨PyData.keyHash P "__module__", (.str "__module__" 693), (.str "pipeboard.paging" 337)⟩, ⟨PyData.keyHash P "__firstlineno__", (.str "__firstlineno__" 697), (.int 187 696)⟩, ⟨PyData.keyHash P "__init__", (.str "__init__" 707), (.ref 320)⟩, ⟨PyData.keyHash P "new_table", (.str "new_table" 715), (.ref 327)⟩, ⟨PyData.keyHash P "need_parts", (.str "need_parts" 724), (.ref 334)⟩, ⟨PyData.keyHash P "walk", (.str "walk" 739), (.ref 342)⟩, ⟨PyData.keyHash P "entry", (.str "entry" 752), (.ref 349)⟩, ⟨PyData.keyHash P "physical", (.str "physical" 765), (.ref 356)⟩, ⟨PyData.keyHash P "need_flags", (.str "need_flags" 773), (.ref 363)⟩, ⟨PyData.keyHash P "map", (.str "map" 784), (.ref 370)⟩, ⟨PyData.keyHash P "map_large", (.str "map_large" 795), (.ref 377)⟩, ⟨PyData.keyHash P "need_place", (.str "need_place" 805), (.ref 384)⟩, ⟨PyData.keyHash P "unmap", (.str "unmap" 814), (.ref 391)⟩, ⟨PyData.keyHash P "change", (.str "change" 826), (.ref 399)⟩, ⟨PyData.keyHash P "move", (.str "move" 839), (.ref 406)⟩, ⟨PyData.keyHash P "tables_of", (.str "tables_of" 850), (.ref 413)⟩, ⟨PyData.keyHash P "rows", (.str "rows" 862), (.ref 420)⟩, ⟨PyData.keyHash P "rows_of", (.str "rows_of" 875), (.ref 427)⟩, ⟨PyData.keyHash P "prune", (.str "prune" 883), (.ref 434)⟩, ⟨PyData.keyHash P "leaves", (.str "leaves" 889), (.ref 439)⟩, ⟨PyData.keyHash P "free", (.str "free" 899), (.ref 446)⟩, ⟨PyData.keyHash P "text", (.str "text" 905), (.ref 451)⟩, ⟨PyData.keyHash P "__static_attributes__", (.str "__static_attributes__" 909), (.ref 452)⟩, ⟨PyData.keyHash P "__dict__", (.str "__dict__" 911), (.ref 455)⟩, ⟨PyData.keyHash P "__weakref__", (.str "__weakref__" 913), (.ref 456)⟩, ⟨PyData.keyHash P "__doc__", (.str "__doc__" 914), .none⟩] 4), #[]⟩
noncomputable def o454 (P : Params) : Obj := ⟨(.type "type"), none, (.cls ⟨"Tables", [(.type "object")], [(.ref 454), (.type "object")], 453, "Tables", true, [], [], false, none, false⟩), #[none, none, (some (.str "Tables" 686)), (some (.str "Tables" 694)), (some (.builtin "object.__new__")), (some (.bool true))]⟩
noncomputable def o455 (P : Params) : Obj := ⟨(.type "getset_descriptor"), none, (.fields #[(.str "__dict__" 910), (.ref 454), (.builtin "function.__dict__"), (.builtin "function.__dict__#set")]), #[]⟩
noncomputable def o456 (P : Params) : Obj := ⟨(.type "getset_descriptor"), none, (.fields #[(.str "__weakref__" 912), (.ref 454), (.builtin "ExceptionGroup.__weakref__"), .none]), #[]⟩
noncomputable def o457 (P : Params) : Obj := ⟨(.type "super"), none, (.fields #[(.ref 454), (.ref 454), (.ref 454)]), #[]⟩
noncomputable def o458 (P : Params) : Obj := ⟨(.type "builtin_function_or_method"), none, (.fields #[(.builtin "object.__init_subclass__"), (.ref 454)]), #[]⟩
noncomputable def o459 (P : Params) : Obj := ⟨(.type "tuple"), none, (.seq #[(.int 1 931), (.int 2 932), (.int 4 933)] 0), #[]⟩
noncomputable def o460 (P : Params) : Obj := ⟨(.type "tuple"), none, (.seq #[] 0), #[]⟩
noncomputable def o461 (P : Params) : Obj := ⟨.none, none, (.fields #[]), #[]⟩
noncomputable def o462 (P : Params) : Obj := ⟨(.type "tuple"), none, (.seq #[(.str "size" 938)] 0), #[]⟩
noncomputable def o463 (P : Params) : Obj := ⟨(.type "tuple"), none, (.seq #[] 0), #[]⟩
noncomputable def o464 (P : Params) : Obj := ⟨.none, none, (.func ⟨"need_size", "need_size", fnA (at1 40), .stmts (fnB (at1 40)), fnS (at1 40), 0, [], .none, .none, .none, .none, none, .none, .none, 0⟩), #[]⟩
noncomputable def o465 (P : Params) : Obj := ⟨(.type "code"), none, (.fields #[(.str "need_size" 935), (.str "need_size" 936), (.str "/claim/cut.py" 937), (.int 335 0), (.int 1 0), (.int 0 0), (.int 0 0), (.int 3 0), (.ref 460), (.bool true), (.int 181 0), (.ref 461), .none, (.ref 462), (.ref 463), (.ref 464), (.int 939 0), (.int 335 0), (.str "/claim/cut.py" 940)]), #[]⟩
noncomputable def o466 (P : Params) : Obj := ⟨(.type "function"), none, (.func ⟨"need_size", "need_size", fnA (at1 40), .stmts (fnB (at1 40)), fnS (at1 40), 3, [], .none, .none, .none, (.str "pipeboard.memory" 917), none, (.ref 465), .none, 0⟩), #[]⟩
noncomputable def o3v8 (P : Params) : Obj := ⟨(.type "dict"), none, (.dict #[⟨PyData.keyHash P "__name__", (.str "__name__" 165), (.str "pipeboard.memory" 917)⟩, ⟨PyData.keyHash P "__doc__", (.str "__doc__" 166), .none⟩, ⟨PyData.keyHash P "__package__", (.str "__package__" 167), .none⟩, ⟨PyData.keyHash P "__loader__", (.str "__loader__" 168), (.builtin "__main__.__loader__#opaque")⟩, ⟨PyData.keyHash P "__spec__", (.str "__spec__" 169), .none⟩, ⟨PyData.keyHash P "__annotations__", (.str "__annotations__" 170), (.ref 6)⟩, ⟨PyData.keyHash P "__builtins__", (.str "__builtins__" 171), (.ref 4)⟩, ⟨PyData.keyHash P "__file__", (.str "__file__" 173), (.str "/claim/cut.py" 172)⟩, ⟨PyData.keyHash P "__cached__", (.str "__cached__" 174), .none⟩, ⟨PyData.keyHash P "_wall", (.str "_wall" 193), (.ref 21)⟩, ⟨PyData.keyHash P "BoardError", (.str "BoardError" 223), (.ref 39)⟩, ⟨PyData.keyHash P "BadArgument", (.str "BadArgument" 239), (.ref 52)⟩, ⟨PyData.keyHash P "BadAddress", (.str "BadAddress" 264), (.ref 71)⟩, ⟨PyData.keyHash P "NoRoom", (.str "NoRoom" 280), (.ref 83)⟩, ⟨PyData.keyHash P "Trap", (.str "Trap" 336), (.ref 103)⟩, ⟨PyData.keyHash P "ENTRY", (.str "ENTRY" 340), (.int 4 339)⟩, ⟨PyData.keyHash P "VALID", (.str "VALID" 342), (.int 1 341)⟩, ⟨PyData.keyHash P "READ", (.str "READ" 344), (.int 2 343)⟩, ⟨PyData.keyHash P "WRITE", (.str "WRITE" 346), (.int 4 345)⟩, ⟨PyData.keyHash P "EXECUTE", (.str "EXECUTE" 348), (.int 8 347)⟩, ⟨PyData.keyHash P "USER", (.str "USER" 350), (.int 16 349)⟩, ⟨PyData.keyHash P "ACCESSED", (.str "ACCESSED" 352), (.int 64 351)⟩, ⟨PyData.keyHash P "DIRTY", (.str "DIRTY" 354), (.int 128 353)⟩, ⟨PyData.keyHash P "LEAF", (.str "LEAF" 356), (.int 10 355)⟩, ⟨PyData.keyHash P "FLAG_BITS", (.str "FLAG_BITS" 358), (.int 10 357)⟩, ⟨PyData.keyHash P "FLAGS", (.str "FLAGS" 363), (.int 1023 362)⟩, ⟨PyData.keyHash P "FLAG_NAMES", (.str "FLAG_NAMES" 365), (.str "vrwxugad" 364)⟩, ⟨PyData.keyHash P "DIGITS", (.str "DIGITS" 367), (.str "0123456789abcdef" 366)⟩, ⟨PyData.keyHash P "FETCH", (.str "FETCH" 369), (.str "fetch" 368)⟩, ⟨PyData.keyHash P "LOAD", (.str "LOAD" 371), (.str "load" 370)⟩, ⟨PyData.keyHash P "STORE", (.str "STORE" 373), (.str "store" 372)⟩, ⟨PyData.keyHash P "PAGE_FAULTS", (.str "PAGE_FAULTS" 380), (.ref 106)⟩, ⟨PyData.keyHash P "ACCESS_FAULTS", (.str "ACCESS_FAULTS" 387), (.ref 107)⟩, ⟨PyData.keyHash P "USER_MODE", (.str "USER_MODE" 389), (.int 0 388)⟩, ⟨PyData.keyHash P "Layout", (.str "Layout" 494), (.ref 182)⟩, ⟨PyData.keyHash P "eight_digits", (.str "eight_digits" 500), (.ref 191)⟩, ⟨PyData.keyHash P "is_leaf", (.str "is_leaf" 507), (.ref 198)⟩, ⟨PyData.keyHash P "is_sound", (.str "is_sound" 514), (.ref 205)⟩, ⟨PyData.keyHash P "may", (.str "may" 525), (.ref 212)⟩, ⟨PyData.keyHash P "Walker", (.str "Walker" 627), (.ref 266)⟩, ⟨PyData.keyHash P "Quick", (.str "Quick" 685), (.ref 302)⟩, ⟨PyData.keyHash P "Tables", (.str "Tables" 916), (.ref 454)⟩, ⟨PyData.keyHash P "WORD", (.str "WORD" 920), (.int 4 919)⟩, ⟨PyData.keyHash P "MASK", (.str "MASK" 926), (.int 4294967295 925)⟩, ⟨PyData.keyHash P "SPACE", (.str "SPACE" 930), (.int 4294967296 929)⟩, ⟨PyData.keyHash P "SIZES", (.str "SIZES" 934), (.ref 459)⟩, ⟨PyData.keyHash P "need_size", (.str "need_size" 941), (.ref 466)⟩, ⟨PyData.keyHash P "need_stretch", (.str "need_stretch" 949), (.ref 473)⟩, ⟨PyData.keyHash P "Memory", (.str "Memory" 1190), (.ref 643)⟩] 49), #[]⟩
noncomputable def o12v7 (P : Params) : Obj := ⟨.none, none, (.fields #[(.int 1 0), (.int 0 0), (.ref 20), (.int 5 0), (.int 0 0), (.ref 27), (.int 10 0), (.int 0 0), (.ref 48), (.int 12 0), (.int 0 0), (.ref 60), (.int 17 0), (.int 0 0), (.ref 79), (.int 19 0), (.int 0 0), (.ref 91), (.int 59 0), (.int 0 0), (.ref 113), (.int 97 0), (.int 0 0), (.ref 190), (.int 99 0), (.int 0 0), (.ref 197), (.int 101 0), (.int 0 0), (.ref 204), (.int 103 0), (.int 0 0), (.ref 211), (.int 113 0), (.int 0 0), (.ref 218), (.int 160 0), (.int 0 0), (.ref 276), (.int 187 0), (.int 0 0), (.ref 312), (.int 335 0), (.int 0 0), (.ref 465), (.int 338 0), (.int 0 0), (.ref 472), (.int 341 0), (.int 0 0), (.ref 479)]), #[]⟩
noncomputable def o467 (P : Params) : Obj := ⟨(.type "tuple"), none, (.seq #[] 0), #[]⟩
noncomputable def o468 (P : Params) : Obj := ⟨.none, none, (.fields #[]), #[]⟩
noncomputable def o469 (P : Params) : Obj := ⟨(.type "tuple"), none, (.seq #[(.str "begin" 945), (.str "end" 946)] 0), #[]⟩
noncomputable def o470 (P : Params) : Obj := ⟨(.type "tuple"), none, (.seq #[] 0), #[]⟩
noncomputable def o471 (P : Params) : Obj := ⟨.none, none, (.func ⟨"need_stretch", "need_stretch", fnA (at1 41), .stmts (fnB (at1 41)), fnS (at1 41), 0, [], .none, .none, .none, .none, none, .none, .none, 0⟩), #[]⟩
noncomputable def o472 (P : Params) : Obj := ⟨(.type "code"), none, (.fields #[(.str "need_stretch" 942), (.str "need_stretch" 943), (.str "/claim/cut.py" 944), (.int 338 0), (.int 2 0), (.int 0 0), (.int 0 0), (.int 3 0), (.ref 467), (.bool true), (.int 181 0), (.ref 468), .none, (.ref 469), (.ref 470), (.ref 471), (.int 947 0), (.int 338 0), (.str "/claim/cut.py" 948)]), #[]⟩
noncomputable def o473 (P : Params) : Obj := ⟨(.type "function"), none, (.func ⟨"need_stretch", "need_stretch", fnA (at1 41), .stmts (fnB (at1 41)), fnS (at1 41), 3, [], .none, .none, .none, (.str "pipeboard.memory" 917), none, (.ref 472), .none, 0⟩), #[]⟩
noncomputable def o474 (P : Params) : Obj := ⟨(.type "tuple"), none, (.seq #[] 0), #[]⟩
noncomputable def o475 (P : Params) : Obj := ⟨(.type "builtin_function_or_method"), none, (.fields #[(.builtin "type.__prepare__"), (.type "type")]), #[]⟩
noncomputable def o476 (P : Params) : Obj := ⟨(.type "dict"), none, (.dict #[⟨PyData.keyHash P "__module__", (.str "__module__" 957), (.str "pipeboard.memory" 917)⟩, ⟨PyData.keyHash P "__qualname__", (.str "__qualname__" 959), (.str "Memory" 958)⟩, ⟨PyData.keyHash P "__firstlineno__", (.str "__firstlineno__" 961), (.int 341 960)⟩, ⟨PyData.keyHash P "__init__", (.str "__init__" 971), (.ref 488)⟩, ⟨PyData.keyHash P "holds", (.str "holds" 980), (.ref 495)⟩, ⟨PyData.keyHash P "need", (.str "need" 989), (.ref 502)⟩, ⟨PyData.keyHash P "need_aligned", (.str "need_aligned" 998), (.ref 509)⟩, ⟨PyData.keyHash P "word", (.str "word" 1006), (.ref 516)⟩, ⟨PyData.keyHash P "put_word", (.str "put_word" 1015), (.ref 523)⟩, ⟨PyData.keyHash P "keep", (.str "keep" 1024), (.ref 530)⟩, ⟨PyData.keyHash P "half", (.str "half" 1032), (.ref 537)⟩, ⟨PyData.keyHash P "put_half", (.str "put_half" 1041), (.ref 544)⟩, ⟨PyData.keyHash P "octet", (.str "octet" 1049), (.ref 551)⟩, ⟨PyData.keyHash P "put_octet", (.str "put_octet" 1058), (.ref 558)⟩, ⟨PyData.keyHash P "put_part", (.str "put_part" 1070), (.ref 565)⟩, ⟨PyData.keyHash P "get", (.str "get" 1079), (.ref 572)⟩, ⟨PyData.keyHash P "put", (.str "put" 1089), (.ref 579)⟩, ⟨PyData.keyHash P "load", (.str "load" 1103), (.ref 586)⟩, ⟨PyData.keyHash P "store", (.str "store" 1118), (.ref 593)⟩, ⟨PyData.keyHash P "zero", (.str "zero" 1130), (.ref 600)⟩, ⟨PyData.keyHash P "fill", (.str "fill" 1140), (.ref 607)⟩, ⟨PyData.keyHash P "copy", (.str "copy" 1150), (.ref 614)⟩, ⟨PyData.keyHash P "used", (.str "used" 1157), (.ref 621)⟩, ⟨PyData.keyHash P "rows", (.str "rows" 1163), (.ref 626)⟩, ⟨PyData.keyHash P "twin", (.str "twin" 1170), (.ref 633)⟩, ⟨PyData.keyHash P "alike", (.str "alike" 1178), (.ref 640)⟩, ⟨PyData.keyHash P "__static_attributes__", (.str "__static_attributes__" 1183), (.ref 641)⟩] 27), #[]⟩
noncomputable def o477 (P : Params) : Obj := ⟨(.type "tuple"), none, (.seq #[] 0), #[]⟩
noncomputable def o478 (P : Params) : Obj := ⟨.none, none, (.fields #[(.int 343 0), (.int 4 0), (.ref 487), (.int 350 0), (.int 4 0), (.ref 494), (.int 353 0), (.int 4 0), (.ref 501), (.int 357 0), (.int 4 0), (.ref 508), (.int 361 0), (.int 4 0), (.ref 515), (.int 365 0), (.int 4 0), (.ref 522), (.int 369 0), (.int 4 0), (.ref 529), (.int 375 0), (.int 4 0), (.ref 536), (.int 379 0), (.int 4 0), (.ref 543), (.int 383 0), (.int 4 0), (.ref 550), (.int 387 0), (.int 4 0), (.ref 557), (.int 391 0), (.int 4 0), (.ref 564), (.int 396 0), (.int 4 0), (.ref 571), (.int 404 0), (.int 4 0), (.ref 578), (.int 413 0), (.int 4 0), (.ref 585), (.int 424 0), (.int 4 0), (.ref 592), (.int 439 0), (.int 4 0), (.ref 599), (.int 450 0), (.int 4 0), (.ref 606), (.int 457 0), (.int 4 0), (.ref 613), (.int 460 0), (.int 4 0), (.ref 620), (.int 463 0), (.int 4 0), (.ref 625), (.int 466 0), (.int 4 0), (.ref 632), (.int 469 0), (.int 4 0), (.ref 639)]), #[]⟩
noncomputable def o479 (P : Params) : Obj := ⟨(.type "code"), none, (.fields #[(.str "Memory" 952), (.str "Memory" 953), (.str "/claim/cut.py" 954), (.int 341 0), (.int 0 0), (.int 0 0), (.int 0 0), (.int 0 0), (.ref 477), (.bool false), (.int 181 0), (.ref 478), .none, .none, .none, .none, (.int 955 0), (.int 341 0), (.str "/claim/cut.py" 956)]), #[]⟩
noncomputable def o480 (P : Params) : Obj := ⟨(.type "frame"), none, .plain, #[(some (.ref 479)), (some (.ref 3)), (some (.ref 476)), none, (some (.str "pipeboard.memory" 917)), none, (some (.ref 0))]⟩
noncomputable def o481 (P : Params) : Obj := ⟨(.type "tuple"), none, (.seq #[(.int 0 962)] 0), #[]⟩
noncomputable def o482 (P : Params) : Obj := ⟨(.type "tuple"), none, (.seq #[] 0), #[]⟩
noncomputable def o483 (P : Params) : Obj := ⟨.none, none, (.fields #[]), #[]⟩
noncomputable def o484 (P : Params) : Obj := ⟨(.type "tuple"), none, (.seq #[(.str "self" 966), (.str "size" 967), (.str "begin" 968)] 0), #[]⟩
noncomputable def o485 (P : Params) : Obj := ⟨(.type "tuple"), none, (.seq #[] 0), #[]⟩
noncomputable def o486 (P : Params) : Obj := ⟨.none, none, (.func ⟨"__init__", "Memory.__init__", fnA (at2 42 0), .stmts (fnB (at2 42 0)), fnS (at2 42 0), 0, [], .none, .none, .none, .none, none, .none, .none, 0⟩), #[]⟩
noncomputable def o487 (P : Params) : Obj := ⟨(.type "code"), none, (.fields #[(.str "__init__" 963), (.str "Memory.__init__" 964), (.str "/claim/cut.py" 965), (.int 343 0), (.int 3 0), (.int 0 0), (.int 0 0), (.int 3 0), (.ref 482), (.bool true), (.int 181 0), (.ref 483), .none, (.ref 484), (.ref 485), (.ref 486), (.int 969 0), (.int 343 0), (.str "/claim/cut.py" 970)]), #[]⟩
noncomputable def o488 (P : Params) : Obj := ⟨(.type "function"), none, (.func ⟨"__init__", "Memory.__init__", fnA (at2 42 0), .stmts (fnB (at2 42 0)), fnS (at2 42 0), 3, [], (.ref 481), .none, .none, (.str "pipeboard.memory" 917), none, (.ref 487), .none, 0⟩), #[]⟩
noncomputable def o489 (P : Params) : Obj := ⟨(.type "tuple"), none, (.seq #[] 0), #[]⟩
noncomputable def o490 (P : Params) : Obj := ⟨.none, none, (.fields #[]), #[]⟩
noncomputable def o491 (P : Params) : Obj := ⟨(.type "tuple"), none, (.seq #[(.str "self" 975), (.str "address" 976), (.str "count" 977)] 0), #[]⟩
noncomputable def o492 (P : Params) : Obj := ⟨(.type "tuple"), none, (.seq #[] 0), #[]⟩
noncomputable def o493 (P : Params) : Obj := ⟨.none, none, (.func ⟨"holds", "Memory.holds", fnA (at2 42 1), .stmts (fnB (at2 42 1)), fnS (at2 42 1), 0, [], .none, .none, .none, .none, none, .none, .none, 0⟩), #[]⟩
noncomputable def o494 (P : Params) : Obj := ⟨(.type "code"), none, (.fields #[(.str "holds" 972), (.str "Memory.holds" 973), (.str "/claim/cut.py" 974), (.int 350 0), (.int 3 0), (.int 0 0), (.int 0 0), (.int 3 0), (.ref 489), (.bool true), (.int 181 0), (.ref 490), .none, (.ref 491), (.ref 492), (.ref 493), (.int 978 0), (.int 350 0), (.str "/claim/cut.py" 979)]), #[]⟩
noncomputable def o495 (P : Params) : Obj := ⟨(.type "function"), none, (.func ⟨"holds", "Memory.holds", fnA (at2 42 1), .stmts (fnB (at2 42 1)), fnS (at2 42 1), 3, [], .none, .none, .none, (.str "pipeboard.memory" 917), none, (.ref 494), .none, 0⟩), #[]⟩
noncomputable def o496 (P : Params) : Obj := ⟨(.type "tuple"), none, (.seq #[] 0), #[]⟩
noncomputable def o497 (P : Params) : Obj := ⟨.none, none, (.fields #[]), #[]⟩
noncomputable def o498 (P : Params) : Obj := ⟨(.type "tuple"), none, (.seq #[(.str "self" 984), (.str "address" 985), (.str "count" 986)] 0), #[]⟩
noncomputable def o499 (P : Params) : Obj := ⟨(.type "tuple"), none, (.seq #[] 0), #[]⟩
noncomputable def o500 (P : Params) : Obj := ⟨.none, none, (.func ⟨"need", "Memory.need", fnA (at2 42 2), .stmts (fnB (at2 42 2)), fnS (at2 42 2), 0, [], .none, .none, .none, .none, none, .none, .none, 0⟩), #[]⟩
noncomputable def o501 (P : Params) : Obj := ⟨(.type "code"), none, (.fields #[(.str "need" 981), (.str "Memory.need" 982), (.str "/claim/cut.py" 983), (.int 353 0), (.int 3 0), (.int 0 0), (.int 0 0), (.int 3 0), (.ref 496), (.bool true), (.int 181 0), (.ref 497), .none, (.ref 498), (.ref 499), (.ref 500), (.int 987 0), (.int 353 0), (.str "/claim/cut.py" 988)]), #[]⟩
noncomputable def o502 (P : Params) : Obj := ⟨(.type "function"), none, (.func ⟨"need", "Memory.need", fnA (at2 42 2), .stmts (fnB (at2 42 2)), fnS (at2 42 2), 3, [], .none, .none, .none, (.str "pipeboard.memory" 917), none, (.ref 501), .none, 0⟩), #[]⟩
noncomputable def o503 (P : Params) : Obj := ⟨(.type "tuple"), none, (.seq #[] 0), #[]⟩
noncomputable def o504 (P : Params) : Obj := ⟨.none, none, (.fields #[]), #[]⟩
noncomputable def o505 (P : Params) : Obj := ⟨(.type "tuple"), none, (.seq #[(.str "self" 993), (.str "address" 994), (.str "size" 995)] 0), #[]⟩
noncomputable def o506 (P : Params) : Obj := ⟨(.type "tuple"), none, (.seq #[] 0), #[]⟩
noncomputable def o507 (P : Params) : Obj := ⟨.none, none, (.func ⟨"need_aligned", "Memory.need_aligned", fnA (at2 42 3), .stmts (fnB (at2 42 3)), fnS (at2 42 3), 0, [], .none, .none, .none, .none, none, .none, .none, 0⟩), #[]⟩
noncomputable def o508 (P : Params) : Obj := ⟨(.type "code"), none, (.fields #[(.str "need_aligned" 990), (.str "Memory.need_aligned" 991), (.str "/claim/cut.py" 992), (.int 357 0), (.int 3 0), (.int 0 0), (.int 0 0), (.int 3 0), (.ref 503), (.bool true), (.int 181 0), (.ref 504), .none, (.ref 505), (.ref 506), (.ref 507), (.int 996 0), (.int 357 0), (.str "/claim/cut.py" 997)]), #[]⟩
noncomputable def o509 (P : Params) : Obj := ⟨(.type "function"), none, (.func ⟨"need_aligned", "Memory.need_aligned", fnA (at2 42 3), .stmts (fnB (at2 42 3)), fnS (at2 42 3), 3, [], .none, .none, .none, (.str "pipeboard.memory" 917), none, (.ref 508), .none, 0⟩), #[]⟩
noncomputable def o510 (P : Params) : Obj := ⟨(.type "tuple"), none, (.seq #[] 0), #[]⟩
noncomputable def o511 (P : Params) : Obj := ⟨.none, none, (.fields #[]), #[]⟩
noncomputable def o512 (P : Params) : Obj := ⟨(.type "tuple"), none, (.seq #[(.str "self" 1002), (.str "address" 1003)] 0), #[]⟩
noncomputable def o513 (P : Params) : Obj := ⟨(.type "tuple"), none, (.seq #[] 0), #[]⟩
noncomputable def o514 (P : Params) : Obj := ⟨.none, none, (.func ⟨"word", "Memory.word", fnA (at2 42 4), .stmts (fnB (at2 42 4)), fnS (at2 42 4), 0, [], .none, .none, .none, .none, none, .none, .none, 0⟩), #[]⟩
noncomputable def o515 (P : Params) : Obj := ⟨(.type "code"), none, (.fields #[(.str "word" 999), (.str "Memory.word" 1000), (.str "/claim/cut.py" 1001), (.int 361 0), (.int 2 0), (.int 0 0), (.int 0 0), (.int 3 0), (.ref 510), (.bool true), (.int 181 0), (.ref 511), .none, (.ref 512), (.ref 513), (.ref 514), (.int 1004 0), (.int 361 0), (.str "/claim/cut.py" 1005)]), #[]⟩
noncomputable def o516 (P : Params) : Obj := ⟨(.type "function"), none, (.func ⟨"word", "Memory.word", fnA (at2 42 4), .stmts (fnB (at2 42 4)), fnS (at2 42 4), 3, [], .none, .none, .none, (.str "pipeboard.memory" 917), none, (.ref 515), .none, 0⟩), #[]⟩
noncomputable def o517 (P : Params) : Obj := ⟨(.type "tuple"), none, (.seq #[] 0), #[]⟩
noncomputable def o518 (P : Params) : Obj := ⟨.none, none, (.fields #[]), #[]⟩
noncomputable def o519 (P : Params) : Obj := ⟨(.type "tuple"), none, (.seq #[(.str "self" 1010), (.str "address" 1011), (.str "value" 1012)] 0), #[]⟩
noncomputable def o520 (P : Params) : Obj := ⟨(.type "tuple"), none, (.seq #[] 0), #[]⟩
noncomputable def o521 (P : Params) : Obj := ⟨.none, none, (.func ⟨"put_word", "Memory.put_word", fnA (at2 42 5), .stmts (fnB (at2 42 5)), fnS (at2 42 5), 0, [], .none, .none, .none, .none, none, .none, .none, 0⟩), #[]⟩
noncomputable def o522 (P : Params) : Obj := ⟨(.type "code"), none, (.fields #[(.str "put_word" 1007), (.str "Memory.put_word" 1008), (.str "/claim/cut.py" 1009), (.int 365 0), (.int 3 0), (.int 0 0), (.int 0 0), (.int 3 0), (.ref 517), (.bool true), (.int 181 0), (.ref 518), .none, (.ref 519), (.ref 520), (.ref 521), (.int 1013 0), (.int 365 0), (.str "/claim/cut.py" 1014)]), #[]⟩
noncomputable def o523 (P : Params) : Obj := ⟨(.type "function"), none, (.func ⟨"put_word", "Memory.put_word", fnA (at2 42 5), .stmts (fnB (at2 42 5)), fnS (at2 42 5), 3, [], .none, .none, .none, (.str "pipeboard.memory" 917), none, (.ref 522), .none, 0⟩), #[]⟩
noncomputable def o524 (P : Params) : Obj := ⟨(.type "tuple"), none, (.seq #[] 0), #[]⟩
noncomputable def o525 (P : Params) : Obj := ⟨.none, none, (.fields #[]), #[]⟩
noncomputable def o526 (P : Params) : Obj := ⟨(.type "tuple"), none, (.seq #[(.str "self" 1019), (.str "index" 1020), (.str "value" 1021)] 0), #[]⟩
noncomputable def o527 (P : Params) : Obj := ⟨(.type "tuple"), none, (.seq #[] 0), #[]⟩
noncomputable def o528 (P : Params) : Obj := ⟨.none, none, (.func ⟨"keep", "Memory.keep", fnA (at2 42 6), .stmts (fnB (at2 42 6)), fnS (at2 42 6), 0, [], .none, .none, .none, .none, none, .none, .none, 0⟩), #[]⟩
noncomputable def o529 (P : Params) : Obj := ⟨(.type "code"), none, (.fields #[(.str "keep" 1016), (.str "Memory.keep" 1017), (.str "/claim/cut.py" 1018), (.int 369 0), (.int 3 0), (.int 0 0), (.int 0 0), (.int 3 0), (.ref 524), (.bool true), (.int 181 0), (.ref 525), .none, (.ref 526), (.ref 527), (.ref 528), (.int 1022 0), (.int 369 0), (.str "/claim/cut.py" 1023)]), #[]⟩
noncomputable def o530 (P : Params) : Obj := ⟨(.type "function"), none, (.func ⟨"keep", "Memory.keep", fnA (at2 42 6), .stmts (fnB (at2 42 6)), fnS (at2 42 6), 3, [], .none, .none, .none, (.str "pipeboard.memory" 917), none, (.ref 529), .none, 0⟩), #[]⟩
noncomputable def o531 (P : Params) : Obj := ⟨(.type "tuple"), none, (.seq #[] 0), #[]⟩
noncomputable def o532 (P : Params) : Obj := ⟨.none, none, (.fields #[]), #[]⟩
noncomputable def o533 (P : Params) : Obj := ⟨(.type "tuple"), none, (.seq #[(.str "self" 1028), (.str "address" 1029)] 0), #[]⟩
noncomputable def o534 (P : Params) : Obj := ⟨(.type "tuple"), none, (.seq #[] 0), #[]⟩
noncomputable def o535 (P : Params) : Obj := ⟨.none, none, (.func ⟨"half", "Memory.half", fnA (at2 42 7), .stmts (fnB (at2 42 7)), fnS (at2 42 7), 0, [], .none, .none, .none, .none, none, .none, .none, 0⟩), #[]⟩
noncomputable def o536 (P : Params) : Obj := ⟨(.type "code"), none, (.fields #[(.str "half" 1025), (.str "Memory.half" 1026), (.str "/claim/cut.py" 1027), (.int 375 0), (.int 2 0), (.int 0 0), (.int 0 0), (.int 3 0), (.ref 531), (.bool true), (.int 181 0), (.ref 532), .none, (.ref 533), (.ref 534), (.ref 535), (.int 1030 0), (.int 375 0), (.str "/claim/cut.py" 1031)]), #[]⟩
noncomputable def o537 (P : Params) : Obj := ⟨(.type "function"), none, (.func ⟨"half", "Memory.half", fnA (at2 42 7), .stmts (fnB (at2 42 7)), fnS (at2 42 7), 3, [], .none, .none, .none, (.str "pipeboard.memory" 917), none, (.ref 536), .none, 0⟩), #[]⟩
noncomputable def o538 (P : Params) : Obj := ⟨(.type "tuple"), none, (.seq #[] 0), #[]⟩
noncomputable def o539 (P : Params) : Obj := ⟨.none, none, (.fields #[]), #[]⟩
noncomputable def o540 (P : Params) : Obj := ⟨(.type "tuple"), none, (.seq #[(.str "self" 1036), (.str "address" 1037), (.str "value" 1038)] 0), #[]⟩
noncomputable def o541 (P : Params) : Obj := ⟨(.type "tuple"), none, (.seq #[] 0), #[]⟩
noncomputable def o542 (P : Params) : Obj := ⟨.none, none, (.func ⟨"put_half", "Memory.put_half", fnA (at2 42 8), .stmts (fnB (at2 42 8)), fnS (at2 42 8), 0, [], .none, .none, .none, .none, none, .none, .none, 0⟩), #[]⟩
noncomputable def o543 (P : Params) : Obj := ⟨(.type "code"), none, (.fields #[(.str "put_half" 1033), (.str "Memory.put_half" 1034), (.str "/claim/cut.py" 1035), (.int 379 0), (.int 3 0), (.int 0 0), (.int 0 0), (.int 3 0), (.ref 538), (.bool true), (.int 181 0), (.ref 539), .none, (.ref 540), (.ref 541), (.ref 542), (.int 1039 0), (.int 379 0), (.str "/claim/cut.py" 1040)]), #[]⟩
noncomputable def o544 (P : Params) : Obj := ⟨(.type "function"), none, (.func ⟨"put_half", "Memory.put_half", fnA (at2 42 8), .stmts (fnB (at2 42 8)), fnS (at2 42 8), 3, [], .none, .none, .none, (.str "pipeboard.memory" 917), none, (.ref 543), .none, 0⟩), #[]⟩
noncomputable def o545 (P : Params) : Obj := ⟨(.type "tuple"), none, (.seq #[] 0), #[]⟩
noncomputable def o546 (P : Params) : Obj := ⟨.none, none, (.fields #[]), #[]⟩
noncomputable def o547 (P : Params) : Obj := ⟨(.type "tuple"), none, (.seq #[(.str "self" 1045), (.str "address" 1046)] 0), #[]⟩
noncomputable def o548 (P : Params) : Obj := ⟨(.type "tuple"), none, (.seq #[] 0), #[]⟩
noncomputable def o549 (P : Params) : Obj := ⟨.none, none, (.func ⟨"octet", "Memory.octet", fnA (at2 42 9), .stmts (fnB (at2 42 9)), fnS (at2 42 9), 0, [], .none, .none, .none, .none, none, .none, .none, 0⟩), #[]⟩
noncomputable def o550 (P : Params) : Obj := ⟨(.type "code"), none, (.fields #[(.str "octet" 1042), (.str "Memory.octet" 1043), (.str "/claim/cut.py" 1044), (.int 383 0), (.int 2 0), (.int 0 0), (.int 0 0), (.int 3 0), (.ref 545), (.bool true), (.int 181 0), (.ref 546), .none, (.ref 547), (.ref 548), (.ref 549), (.int 1047 0), (.int 383 0), (.str "/claim/cut.py" 1048)]), #[]⟩
noncomputable def o551 (P : Params) : Obj := ⟨(.type "function"), none, (.func ⟨"octet", "Memory.octet", fnA (at2 42 9), .stmts (fnB (at2 42 9)), fnS (at2 42 9), 3, [], .none, .none, .none, (.str "pipeboard.memory" 917), none, (.ref 550), .none, 0⟩), #[]⟩
noncomputable def o552 (P : Params) : Obj := ⟨(.type "tuple"), none, (.seq #[] 0), #[]⟩
noncomputable def o553 (P : Params) : Obj := ⟨.none, none, (.fields #[]), #[]⟩
noncomputable def o554 (P : Params) : Obj := ⟨(.type "tuple"), none, (.seq #[(.str "self" 1053), (.str "address" 1054), (.str "value" 1055)] 0), #[]⟩
noncomputable def o555 (P : Params) : Obj := ⟨(.type "tuple"), none, (.seq #[] 0), #[]⟩
noncomputable def o556 (P : Params) : Obj := ⟨.none, none, (.func ⟨"put_octet", "Memory.put_octet", fnA (at2 42 10), .stmts (fnB (at2 42 10)), fnS (at2 42 10), 0, [], .none, .none, .none, .none, none, .none, .none, 0⟩), #[]⟩
noncomputable def o557 (P : Params) : Obj := ⟨(.type "code"), none, (.fields #[(.str "put_octet" 1050), (.str "Memory.put_octet" 1051), (.str "/claim/cut.py" 1052), (.int 387 0), (.int 3 0), (.int 0 0), (.int 0 0), (.int 3 0), (.ref 552), (.bool true), (.int 181 0), (.ref 553), .none, (.ref 554), (.ref 555), (.ref 556), (.int 1056 0), (.int 387 0), (.str "/claim/cut.py" 1057)]), #[]⟩
noncomputable def o558 (P : Params) : Obj := ⟨(.type "function"), none, (.func ⟨"put_octet", "Memory.put_octet", fnA (at2 42 10), .stmts (fnB (at2 42 10)), fnS (at2 42 10), 3, [], .none, .none, .none, (.str "pipeboard.memory" 917), none, (.ref 557), .none, 0⟩), #[]⟩
noncomputable def o559 (P : Params) : Obj := ⟨(.type "tuple"), none, (.seq #[] 0), #[]⟩
noncomputable def o560 (P : Params) : Obj := ⟨.none, none, (.fields #[]), #[]⟩
noncomputable def o561 (P : Params) : Obj := ⟨(.type "tuple"), none, (.seq #[(.str "self" 1062), (.str "address" 1063), (.str "ones" 1064), (.str "value" 1065), (.str "shift" 1066), (.str "old" 1067)] 0), #[]⟩
noncomputable def o562 (P : Params) : Obj := ⟨(.type "tuple"), none, (.seq #[] 0), #[]⟩
noncomputable def o563 (P : Params) : Obj := ⟨.none, none, (.func ⟨"put_part", "Memory.put_part", fnA (at2 42 11), .stmts (fnB (at2 42 11)), fnS (at2 42 11), 0, [], .none, .none, .none, .none, none, .none, .none, 0⟩), #[]⟩
noncomputable def o564 (P : Params) : Obj := ⟨(.type "code"), none, (.fields #[(.str "put_part" 1059), (.str "Memory.put_part" 1060), (.str "/claim/cut.py" 1061), (.int 391 0), (.int 4 0), (.int 0 0), (.int 0 0), (.int 3 0), (.ref 559), (.bool true), (.int 181 0), (.ref 560), .none, (.ref 561), (.ref 562), (.ref 563), (.int 1068 0), (.int 391 0), (.str "/claim/cut.py" 1069)]), #[]⟩
noncomputable def o565 (P : Params) : Obj := ⟨(.type "function"), none, (.func ⟨"put_part", "Memory.put_part", fnA (at2 42 11), .stmts (fnB (at2 42 11)), fnS (at2 42 11), 3, [], .none, .none, .none, (.str "pipeboard.memory" 917), none, (.ref 564), .none, 0⟩), #[]⟩
noncomputable def o566 (P : Params) : Obj := ⟨(.type "tuple"), none, (.seq #[] 0), #[]⟩
noncomputable def o567 (P : Params) : Obj := ⟨.none, none, (.fields #[]), #[]⟩
noncomputable def o568 (P : Params) : Obj := ⟨(.type "tuple"), none, (.seq #[(.str "self" 1074), (.str "address" 1075), (.str "size" 1076)] 0), #[]⟩
noncomputable def o569 (P : Params) : Obj := ⟨(.type "tuple"), none, (.seq #[] 0), #[]⟩
noncomputable def o570 (P : Params) : Obj := ⟨.none, none, (.func ⟨"get", "Memory.get", fnA (at2 42 12), .stmts (fnB (at2 42 12)), fnS (at2 42 12), 0, [], .none, .none, .none, .none, none, .none, .none, 0⟩), #[]⟩
noncomputable def o571 (P : Params) : Obj := ⟨(.type "code"), none, (.fields #[(.str "get" 1071), (.str "Memory.get" 1072), (.str "/claim/cut.py" 1073), (.int 396 0), (.int 3 0), (.int 0 0), (.int 0 0), (.int 3 0), (.ref 566), (.bool true), (.int 181 0), (.ref 567), .none, (.ref 568), (.ref 569), (.ref 570), (.int 1077 0), (.int 396 0), (.str "/claim/cut.py" 1078)]), #[]⟩
noncomputable def o572 (P : Params) : Obj := ⟨(.type "function"), none, (.func ⟨"get", "Memory.get", fnA (at2 42 12), .stmts (fnB (at2 42 12)), fnS (at2 42 12), 3, [], .none, .none, .none, (.str "pipeboard.memory" 917), none, (.ref 571), .none, 0⟩), #[]⟩
noncomputable def o573 (P : Params) : Obj := ⟨(.type "tuple"), none, (.seq #[] 0), #[]⟩
noncomputable def o574 (P : Params) : Obj := ⟨.none, none, (.fields #[]), #[]⟩
noncomputable def o575 (P : Params) : Obj := ⟨(.type "tuple"), none, (.seq #[(.str "self" 1083), (.str "address" 1084), (.str "size" 1085), (.str "value" 1086)] 0), #[]⟩
noncomputable def o576 (P : Params) : Obj := ⟨(.type "tuple"), none, (.seq #[] 0), #[]⟩
noncomputable def o577 (P : Params) : Obj := ⟨.none, none, (.func ⟨"put", "Memory.put", fnA (at2 42 13), .stmts (fnB (at2 42 13)), fnS (at2 42 13), 0, [], .none, .none, .none, .none, none, .none, .none, 0⟩), #[]⟩
noncomputable def o578 (P : Params) : Obj := ⟨(.type "code"), none, (.fields #[(.str "put" 1080), (.str "Memory.put" 1081), (.str "/claim/cut.py" 1082), (.int 404 0), (.int 4 0), (.int 0 0), (.int 0 0), (.int 3 0), (.ref 573), (.bool true), (.int 181 0), (.ref 574), .none, (.ref 575), (.ref 576), (.ref 577), (.int 1087 0), (.int 404 0), (.str "/claim/cut.py" 1088)]), #[]⟩
noncomputable def o579 (P : Params) : Obj := ⟨(.type "function"), none, (.func ⟨"put", "Memory.put", fnA (at2 42 13), .stmts (fnB (at2 42 13)), fnS (at2 42 13), 3, [], .none, .none, .none, (.str "pipeboard.memory" 917), none, (.ref 578), .none, 0⟩), #[]⟩
noncomputable def o580 (P : Params) : Obj := ⟨(.type "tuple"), none, (.seq #[] 0), #[]⟩
noncomputable def o581 (P : Params) : Obj := ⟨.none, none, (.fields #[]), #[]⟩
noncomputable def o582 (P : Params) : Obj := ⟨(.type "tuple"), none, (.seq #[(.str "self" 1093), (.str "address" 1094), (.str "count" 1095), (.str "found" 1096), (.str "place" 1097), (.str "end" 1098), (.str "word" 1099), (.str "turn" 1100)] 0), #[]⟩
noncomputable def o583 (P : Params) : Obj := ⟨(.type "tuple"), none, (.seq #[] 0), #[]⟩
noncomputable def o584 (P : Params) : Obj := ⟨.none, none, (.func ⟨"load", "Memory.load", fnA (at2 42 14), .stmts (fnB (at2 42 14)), fnS (at2 42 14), 0, [], .none, .none, .none, .none, none, .none, .none, 0⟩), #[]⟩
noncomputable def o585 (P : Params) : Obj := ⟨(.type "code"), none, (.fields #[(.str "load" 1090), (.str "Memory.load" 1091), (.str "/claim/cut.py" 1092), (.int 413 0), (.int 3 0), (.int 0 0), (.int 0 0), (.int 3 0), (.ref 580), (.bool true), (.int 181 0), (.ref 581), .none, (.ref 582), (.ref 583), (.ref 584), (.int 1101 0), (.int 413 0), (.str "/claim/cut.py" 1102)]), #[]⟩
noncomputable def o586 (P : Params) : Obj := ⟨(.type "function"), none, (.func ⟨"load", "Memory.load", fnA (at2 42 14), .stmts (fnB (at2 42 14)), fnS (at2 42 14), 3, [], .none, .none, .none, (.str "pipeboard.memory" 917), none, (.ref 585), .none, 0⟩), #[]⟩
noncomputable def o587 (P : Params) : Obj := ⟨(.type "tuple"), none, (.seq #[] 0), #[]⟩
noncomputable def o588 (P : Params) : Obj := ⟨.none, none, (.fields #[]), #[]⟩
noncomputable def o589 (P : Params) : Obj := ⟨(.type "tuple"), none, (.seq #[(.str "self" 1107), (.str "address" 1108), (.str "octets" 1109), (.str "place" 1110), (.str "at" 1111), (.str "end" 1112), (.str "size" 1113), (.str "value" 1114), (.str "octet" 1115)] 0), #[]⟩
noncomputable def o590 (P : Params) : Obj := ⟨(.type "tuple"), none, (.seq #[] 0), #[]⟩
noncomputable def o591 (P : Params) : Obj := ⟨.none, none, (.func ⟨"store", "Memory.store", fnA (at2 42 15), .stmts (fnB (at2 42 15)), fnS (at2 42 15), 0, [], .none, .none, .none, .none, none, .none, .none, 0⟩), #[]⟩
noncomputable def o592 (P : Params) : Obj := ⟨(.type "code"), none, (.fields #[(.str "store" 1104), (.str "Memory.store" 1105), (.str "/claim/cut.py" 1106), (.int 424 0), (.int 3 0), (.int 0 0), (.int 0 0), (.int 3 0), (.ref 587), (.bool true), (.int 181 0), (.ref 588), .none, (.ref 589), (.ref 590), (.ref 591), (.int 1116 0), (.int 424 0), (.str "/claim/cut.py" 1117)]), #[]⟩
noncomputable def o593 (P : Params) : Obj := ⟨(.type "function"), none, (.func ⟨"store", "Memory.store", fnA (at2 42 15), .stmts (fnB (at2 42 15)), fnS (at2 42 15), 3, [], .none, .none, .none, (.str "pipeboard.memory" 917), none, (.ref 592), .none, 0⟩), #[]⟩
noncomputable def o594 (P : Params) : Obj := ⟨(.type "tuple"), none, (.seq #[] 0), #[]⟩
noncomputable def o595 (P : Params) : Obj := ⟨.none, none, (.fields #[]), #[]⟩
noncomputable def o596 (P : Params) : Obj := ⟨(.type "tuple"), none, (.seq #[(.str "self" 1122), (.str "address" 1123), (.str "count" 1124), (.str "place" 1125), (.str "end" 1126), (.str "size" 1127)] 0), #[]⟩
noncomputable def o597 (P : Params) : Obj := ⟨(.type "tuple"), none, (.seq #[] 0), #[]⟩
noncomputable def o598 (P : Params) : Obj := ⟨.none, none, (.func ⟨"zero", "Memory.zero", fnA (at2 42 16), .stmts (fnB (at2 42 16)), fnS (at2 42 16), 0, [], .none, .none, .none, .none, none, .none, .none, 0⟩), #[]⟩
noncomputable def o599 (P : Params) : Obj := ⟨(.type "code"), none, (.fields #[(.str "zero" 1119), (.str "Memory.zero" 1120), (.str "/claim/cut.py" 1121), (.int 439 0), (.int 3 0), (.int 0 0), (.int 0 0), (.int 3 0), (.ref 594), (.bool true), (.int 181 0), (.ref 595), .none, (.ref 596), (.ref 597), (.ref 598), (.int 1128 0), (.int 439 0), (.str "/claim/cut.py" 1129)]), #[]⟩
noncomputable def o600 (P : Params) : Obj := ⟨(.type "function"), none, (.func ⟨"zero", "Memory.zero", fnA (at2 42 16), .stmts (fnB (at2 42 16)), fnS (at2 42 16), 3, [], .none, .none, .none, (.str "pipeboard.memory" 917), none, (.ref 599), .none, 0⟩), #[]⟩
noncomputable def o601 (P : Params) : Obj := ⟨(.type "tuple"), none, (.seq #[] 0), #[]⟩
noncomputable def o602 (P : Params) : Obj := ⟨.none, none, (.fields #[]), #[]⟩
noncomputable def o603 (P : Params) : Obj := ⟨(.type "tuple"), none, (.seq #[(.str "self" 1134), (.str "address" 1135), (.str "count" 1136), (.str "octet" 1137)] 0), #[]⟩
noncomputable def o604 (P : Params) : Obj := ⟨(.type "tuple"), none, (.seq #[] 0), #[]⟩
noncomputable def o605 (P : Params) : Obj := ⟨.none, none, (.func ⟨"fill", "Memory.fill", fnA (at2 42 17), .stmts (fnB (at2 42 17)), fnS (at2 42 17), 0, [], .none, .none, .none, .none, none, .none, .none, 0⟩), #[]⟩
noncomputable def o606 (P : Params) : Obj := ⟨(.type "code"), none, (.fields #[(.str "fill" 1131), (.str "Memory.fill" 1132), (.str "/claim/cut.py" 1133), (.int 450 0), (.int 4 0), (.int 0 0), (.int 0 0), (.int 3 0), (.ref 601), (.bool true), (.int 181 0), (.ref 602), .none, (.ref 603), (.ref 604), (.ref 605), (.int 1138 0), (.int 450 0), (.str "/claim/cut.py" 1139)]), #[]⟩
noncomputable def o607 (P : Params) : Obj := ⟨(.type "function"), none, (.func ⟨"fill", "Memory.fill", fnA (at2 42 17), .stmts (fnB (at2 42 17)), fnS (at2 42 17), 3, [], .none, .none, .none, (.str "pipeboard.memory" 917), none, (.ref 606), .none, 0⟩), #[]⟩
noncomputable def o608 (P : Params) : Obj := ⟨(.type "tuple"), none, (.seq #[] 0), #[]⟩
noncomputable def o609 (P : Params) : Obj := ⟨.none, none, (.fields #[]), #[]⟩
noncomputable def o610 (P : Params) : Obj := ⟨(.type "tuple"), none, (.seq #[(.str "self" 1144), (.str "source" 1145), (.str "target" 1146), (.str "count" 1147)] 0), #[]⟩
noncomputable def o611 (P : Params) : Obj := ⟨(.type "tuple"), none, (.seq #[] 0), #[]⟩
noncomputable def o612 (P : Params) : Obj := ⟨.none, none, (.func ⟨"copy", "Memory.copy", fnA (at2 42 18), .stmts (fnB (at2 42 18)), fnS (at2 42 18), 0, [], .none, .none, .none, .none, none, .none, .none, 0⟩), #[]⟩
noncomputable def o613 (P : Params) : Obj := ⟨(.type "code"), none, (.fields #[(.str "copy" 1141), (.str "Memory.copy" 1142), (.str "/claim/cut.py" 1143), (.int 457 0), (.int 4 0), (.int 0 0), (.int 0 0), (.int 3 0), (.ref 608), (.bool true), (.int 181 0), (.ref 609), .none, (.ref 610), (.ref 611), (.ref 612), (.int 1148 0), (.int 457 0), (.str "/claim/cut.py" 1149)]), #[]⟩
noncomputable def o614 (P : Params) : Obj := ⟨(.type "function"), none, (.func ⟨"copy", "Memory.copy", fnA (at2 42 18), .stmts (fnB (at2 42 18)), fnS (at2 42 18), 3, [], .none, .none, .none, (.str "pipeboard.memory" 917), none, (.ref 613), .none, 0⟩), #[]⟩
noncomputable def o615 (P : Params) : Obj := ⟨(.type "tuple"), none, (.seq #[] 0), #[]⟩
noncomputable def o616 (P : Params) : Obj := ⟨.none, none, (.fields #[]), #[]⟩
noncomputable def o617 (P : Params) : Obj := ⟨(.type "tuple"), none, (.seq #[(.str "self" 1154)] 0), #[]⟩
noncomputable def o618 (P : Params) : Obj := ⟨(.type "tuple"), none, (.seq #[] 0), #[]⟩
noncomputable def o619 (P : Params) : Obj := ⟨.none, none, (.func ⟨"used", "Memory.used", fnA (at2 42 19), .stmts (fnB (at2 42 19)), fnS (at2 42 19), 0, [], .none, .none, .none, .none, none, .none, .none, 0⟩), #[]⟩
noncomputable def o620 (P : Params) : Obj := ⟨(.type "code"), none, (.fields #[(.str "used" 1151), (.str "Memory.used" 1152), (.str "/claim/cut.py" 1153), (.int 460 0), (.int 1 0), (.int 0 0), (.int 0 0), (.int 3 0), (.ref 615), (.bool true), (.int 181 0), (.ref 616), .none, (.ref 617), (.ref 618), (.ref 619), (.int 1155 0), (.int 460 0), (.str "/claim/cut.py" 1156)]), #[]⟩
noncomputable def o621 (P : Params) : Obj := ⟨(.type "function"), none, (.func ⟨"used", "Memory.used", fnA (at2 42 19), .stmts (fnB (at2 42 19)), fnS (at2 42 19), 3, [], .none, .none, .none, (.str "pipeboard.memory" 917), none, (.ref 620), .none, 0⟩), #[]⟩
noncomputable def o622 (P : Params) : Obj := ⟨(.type "tuple"), none, (.seq #[] 0), #[]⟩
noncomputable def o623 (P : Params) : Obj := ⟨.none, none, (.fields #[]), #[]⟩
noncomputable def o624 (P : Params) : Obj := ⟨.none, none, (.func ⟨"rows", "Memory.rows", fnA (at2 42 20), .stmts (fnB (at2 42 20)), fnS (at2 42 20), 0, [], .none, .none, .none, .none, none, .none, .none, 0⟩), #[]⟩
noncomputable def o625 (P : Params) : Obj := ⟨(.type "code"), none, (.fields #[(.str "rows" 1158), (.str "Memory.rows" 1159), (.str "/claim/cut.py" 1160), (.int 463 0), (.int 1 0), (.int 0 0), (.int 0 0), (.int 3 0), (.ref 622), (.bool true), (.int 181 0), (.ref 623), .none, .none, .none, (.ref 624), (.int 1161 0), (.int 463 0), (.str "/claim/cut.py" 1162)]), #[]⟩
noncomputable def o626 (P : Params) : Obj := ⟨(.type "function"), none, (.func ⟨"rows", "Memory.rows", fnA (at2 42 20), .stmts (fnB (at2 42 20)), fnS (at2 42 20), 3, [], .none, .none, .none, (.str "pipeboard.memory" 917), none, (.ref 625), .none, 0⟩), #[]⟩
noncomputable def o627 (P : Params) : Obj := ⟨(.type "tuple"), none, (.seq #[] 0), #[]⟩
noncomputable def o628 (P : Params) : Obj := ⟨.none, none, (.fields #[]), #[]⟩
noncomputable def o629 (P : Params) : Obj := ⟨(.type "tuple"), none, (.seq #[(.str "self" 1167)] 0), #[]⟩
noncomputable def o630 (P : Params) : Obj := ⟨(.type "tuple"), none, (.seq #[] 0), #[]⟩
noncomputable def o631 (P : Params) : Obj := ⟨.none, none, (.func ⟨"twin", "Memory.twin", fnA (at2 42 21), .stmts (fnB (at2 42 21)), fnS (at2 42 21), 0, [], .none, .none, .none, .none, none, .none, .none, 0⟩), #[]⟩
noncomputable def o632 (P : Params) : Obj := ⟨(.type "code"), none, (.fields #[(.str "twin" 1164), (.str "Memory.twin" 1165), (.str "/claim/cut.py" 1166), (.int 466 0), (.int 1 0), (.int 0 0), (.int 0 0), (.int 3 0), (.ref 627), (.bool true), (.int 181 0), (.ref 628), .none, (.ref 629), (.ref 630), (.ref 631), (.int 1168 0), (.int 466 0), (.str "/claim/cut.py" 1169)]), #[]⟩
noncomputable def o633 (P : Params) : Obj := ⟨(.type "function"), none, (.func ⟨"twin", "Memory.twin", fnA (at2 42 21), .stmts (fnB (at2 42 21)), fnS (at2 42 21), 3, [], .none, .none, .none, (.str "pipeboard.memory" 917), none, (.ref 632), .none, 0⟩), #[]⟩
noncomputable def o634 (P : Params) : Obj := ⟨(.type "tuple"), none, (.seq #[] 0), #[]⟩
noncomputable def o635 (P : Params) : Obj := ⟨.none, none, (.fields #[]), #[]⟩
noncomputable def o636 (P : Params) : Obj := ⟨(.type "tuple"), none, (.seq #[(.str "self" 1174), (.str "other" 1175)] 0), #[]⟩
noncomputable def o637 (P : Params) : Obj := ⟨(.type "tuple"), none, (.seq #[] 0), #[]⟩
noncomputable def o638 (P : Params) : Obj := ⟨.none, none, (.func ⟨"alike", "Memory.alike", fnA (at2 42 22), .stmts (fnB (at2 42 22)), fnS (at2 42 22), 0, [], .none, .none, .none, .none, none, .none, .none, 0⟩), #[]⟩
noncomputable def o639 (P : Params) : Obj := ⟨(.type "code"), none, (.fields #[(.str "alike" 1171), (.str "Memory.alike" 1172), (.str "/claim/cut.py" 1173), (.int 469 0), (.int 2 0), (.int 0 0), (.int 0 0), (.int 3 0), (.ref 634), (.bool true), (.int 181 0), (.ref 635), .none, (.ref 636), (.ref 637), (.ref 638), (.int 1176 0), (.int 469 0), (.str "/claim/cut.py" 1177)]), #[]⟩
noncomputable def o640 (P : Params) : Obj := ⟨(.type "function"), none, (.func ⟨"alike", "Memory.alike", fnA (at2 42 22), .stmts (fnB (at2 42 22)), fnS (at2 42 22), 3, [], .none, .none, .none, (.str "pipeboard.memory" 917), none, (.ref 639), .none, 0⟩), #[]⟩
noncomputable def o641 (P : Params) : Obj := ⟨(.type "tuple"), none, (.seq #[(.str "begin" 1179), (.str "end" 1180), (.str "size" 1181), (.str "words" 1182)] 0), #[]⟩
noncomputable def o642 (P : Params) : Obj := ⟨(.type "dict"), none, (.dict #[⟨PyData.keyHash P "__module__", (.str "__module__" 957), (.str "pipeboard.memory" 917)⟩, ⟨PyData.keyHash P "__firstlineno__", (.str "__firstlineno__" 961), (.int 341 960)⟩, ⟨PyData.keyHash P "__init__", (.str "__init__" 971), (.ref 488)⟩, ⟨PyData.keyHash P "holds", (.str "holds" 980), (.ref 495)⟩, ⟨PyData.keyHash P "need", (.str "need" 989), (.ref 502)⟩, ⟨PyData.keyHash P "need_aligned", (.str "need_aligned" 998), (.ref 509)⟩, ⟨PyData.keyHash P "word", (.str "word" 1006), (.ref 516)⟩, ⟨PyData.keyHash P "put_word", (.str "put_word" 1015), (.ref 523)⟩, ⟨PyData.keyHash P "keep", (.str "keep" 1024), (.ref 530)⟩, ⟨PyData.keyHash P "half", (.str "half" 1032), (.ref 537)⟩, ⟨PyData.keyHash P "put_half", (.str "put_half" 1041), (.ref 544)⟩, ⟨PyData.keyHash P "octet", (.str "octet" 1049), (.ref 551)⟩, ⟨PyData.keyHash P "put_octet", (.str "put_octet" 1058), (.ref 558)⟩, ⟨PyData.keyHash P "put_part", (.str "put_part" 1070), (.ref 565)⟩, ⟨PyData.keyHash P "get", (.str "get" 1079), (.ref 572)⟩, ⟨PyData.keyHash P "put", (.str "put" 1089), (.ref 579)⟩, ⟨PyData.keyHash P "load", (.str "load" 1103), (.ref 586)⟩, ⟨PyData.keyHash P "store", (.str "store" 1118), (.ref 593)⟩, ⟨PyData.keyHash P "zero", (.str "zero" 1130), (.ref 600)⟩, ⟨PyData.keyHash P "fill", (.str "fill" 1140), (.ref 607)⟩, ⟨PyData.keyHash P "copy", (.str "copy" 1150), (.ref 614)⟩, ⟨PyData.keyHash P "used", (.str "used" 1157), (.ref 621)⟩, ⟨PyData.keyHash P "rows", (.str "rows" 1163), (.ref 626)⟩, ⟨PyData.keyHash P "twin", (.str "twin" 1170), (.ref 633)⟩, ⟨PyData.keyHash P "alike", (.str "alike" 1178), (.ref 640)⟩, ⟨PyData.keyHash P "__static_attributes__", (.str "__static_attributes__" 1183), (.ref 641)⟩, ⟨PyData.keyHash P "__dict__", (.str "__dict__" 1185), (.ref 644)⟩, ⟨PyData.keyHash P "__weakref__", (.str "__weakref__" 1187), (.ref 645)⟩, ⟨PyData.keyHash P "__doc__", (.str "__doc__" 1188), .none⟩] 4), #[]⟩
noncomputable def o643 (P : Params) : Obj := ⟨(.type "type"), none, (.cls ⟨"Memory", [(.type "object")], [(.ref 643), (.type "object")], 642, "Memory", true, [], [], false, none, false⟩), #[none, none, (some (.str "Memory" 950)), (some (.str "Memory" 958)), (some (.builtin "object.__new__")), (some (.bool true))]⟩
noncomputable def o644 (P : Params) : Obj := ⟨(.type "getset_descriptor"), none, (.fields #[(.str "__dict__" 1184), (.ref 643), (.builtin "function.__dict__"), (.builtin "function.__dict__#set")]), #[]⟩
noncomputable def o645 (P : Params) : Obj := ⟨(.type "getset_descriptor"), none, (.fields #[(.str "__weakref__" 1186), (.ref 643), (.builtin "ExceptionGroup.__weakref__"), .none]), #[]⟩
noncomputable def o646 (P : Params) : Obj := ⟨(.type "super"), none, (.fields #[(.ref 643), (.ref 643), (.ref 643)]), #[]⟩
noncomputable def o647 (P : Params) : Obj := ⟨(.type "builtin_function_or_method"), none, (.fields #[(.builtin "object.__init_subclass__"), (.ref 643)]), #[]⟩
noncomputable def o3v9 (P : Params) : Obj := ⟨(.type "dict"), none, (.dict #[⟨PyData.keyHash P "__name__", (.str "__name__" 165), (.str "pipeboard.pages" 1344)⟩, ⟨PyData.keyHash P "__doc__", (.str "__doc__" 166), .none⟩, ⟨PyData.keyHash P "__package__", (.str "__package__" 167), .none⟩, ⟨PyData.keyHash P "__loader__", (.str "__loader__" 168), (.builtin "__main__.__loader__#opaque")⟩, ⟨PyData.keyHash P "__spec__", (.str "__spec__" 169), .none⟩, ⟨PyData.keyHash P "__annotations__", (.str "__annotations__" 170), (.ref 6)⟩, ⟨PyData.keyHash P "__builtins__", (.str "__builtins__" 171), (.ref 4)⟩, ⟨PyData.keyHash P "__file__", (.str "__file__" 173), (.str "/claim/cut.py" 172)⟩, ⟨PyData.keyHash P "__cached__", (.str "__cached__" 174), .none⟩, ⟨PyData.keyHash P "_wall", (.str "_wall" 193), (.ref 21)⟩, ⟨PyData.keyHash P "BoardError", (.str "BoardError" 223), (.ref 39)⟩, ⟨PyData.keyHash P "BadArgument", (.str "BadArgument" 239), (.ref 52)⟩, ⟨PyData.keyHash P "BadAddress", (.str "BadAddress" 264), (.ref 71)⟩, ⟨PyData.keyHash P "NoRoom", (.str "NoRoom" 280), (.ref 83)⟩, ⟨PyData.keyHash P "Trap", (.str "Trap" 336), (.ref 103)⟩, ⟨PyData.keyHash P "ENTRY", (.str "ENTRY" 340), (.int 4 339)⟩, ⟨PyData.keyHash P "VALID", (.str "VALID" 342), (.int 1 341)⟩, ⟨PyData.keyHash P "READ", (.str "READ" 344), (.int 2 343)⟩, ⟨PyData.keyHash P "WRITE", (.str "WRITE" 346), (.int 4 345)⟩, ⟨PyData.keyHash P "EXECUTE", (.str "EXECUTE" 348), (.int 8 347)⟩, ⟨PyData.keyHash P "USER", (.str "USER" 350), (.int 16 349)⟩, ⟨PyData.keyHash P "ACCESSED", (.str "ACCESSED" 352), (.int 64 351)⟩, ⟨PyData.keyHash P "DIRTY", (.str "DIRTY" 354), (.int 128 353)⟩, ⟨PyData.keyHash P "LEAF", (.str "LEAF" 356), (.int 10 355)⟩, ⟨PyData.keyHash P "FLAG_BITS", (.str "FLAG_BITS" 358), (.int 10 357)⟩, ⟨PyData.keyHash P "FLAGS", (.str "FLAGS" 363), (.int 1023 362)⟩, ⟨PyData.keyHash P "FLAG_NAMES", (.str "FLAG_NAMES" 365), (.str "vrwxugad" 364)⟩, ⟨PyData.keyHash P "DIGITS", (.str "DIGITS" 367), (.str "0123456789abcdef" 366)⟩, ⟨PyData.keyHash P "FETCH", (.str "FETCH" 369), (.str "fetch" 368)⟩, ⟨PyData.keyHash P "LOAD", (.str "LOAD" 371), (.str "load" 370)⟩, ⟨PyData.keyHash P "STORE", (.str "STORE" 373), (.str "store" 372)⟩, ⟨PyData.keyHash P "PAGE_FAULTS", (.str "PAGE_FAULTS" 380), (.ref 106)⟩, ⟨PyData.keyHash P "ACCESS_FAULTS", (.str "ACCESS_FAULTS" 387), (.ref 107)⟩, ⟨PyData.keyHash P "USER_MODE", (.str "USER_MODE" 389), (.int 0 388)⟩, ⟨PyData.keyHash P "Layout", (.str "Layout" 494), (.ref 182)⟩, ⟨PyData.keyHash P "eight_digits", (.str "eight_digits" 500), (.ref 191)⟩, ⟨PyData.keyHash P "is_leaf", (.str "is_leaf" 507), (.ref 198)⟩, ⟨PyData.keyHash P "is_sound", (.str "is_sound" 514), (.ref 205)⟩, ⟨PyData.keyHash P "may", (.str "may" 525), (.ref 212)⟩, ⟨PyData.keyHash P "Walker", (.str "Walker" 627), (.ref 266)⟩, ⟨PyData.keyHash P "Quick", (.str "Quick" 685), (.ref 302)⟩, ⟨PyData.keyHash P "Tables", (.str "Tables" 916), (.ref 454)⟩, ⟨PyData.keyHash P "WORD", (.str "WORD" 920), (.int 4 919)⟩, ⟨PyData.keyHash P "MASK", (.str "MASK" 926), (.int 4294967295 925)⟩, ⟨PyData.keyHash P "SPACE", (.str "SPACE" 930), (.int 4294967296 929)⟩, ⟨PyData.keyHash P "SIZES", (.str "SIZES" 934), (.ref 459)⟩, ⟨PyData.keyHash P "need_size", (.str "need_size" 941), (.ref 466)⟩, ⟨PyData.keyHash P "need_stretch", (.str "need_stretch" 949), (.ref 473)⟩, ⟨PyData.keyHash P "Memory", (.str "Memory" 1190), (.ref 643)⟩, ⟨PyData.keyHash P "Rom", (.str "Rom" 1247), (.ref 685)⟩, ⟨PyData.keyHash P "Bus", (.str "Bus" 1343), (.ref 750)⟩, ⟨PyData.keyHash P "TAKEN", (.str "TAKEN" 1347), (.int 5 1346)⟩, ⟨PyData.keyHash P "FREED", (.str "FREED" 1349), (.int 1 1348)⟩] 53), #[]⟩
noncomputable def o12v8 (P : Params) : Obj := ⟨.none, none, (.fields #[(.int 1 0), (.int 0 0), (.ref 20), (.int 5 0), (.int 0 0), (.ref 27), (.int 10 0), (.int 0 0), (.ref 48), (.int 12 0), (.int 0 0), (.ref 60), (.int 17 0), (.int 0 0), (.ref 79), (.int 19 0), (.int 0 0), (.ref 91), (.int 59 0), (.int 0 0), (.ref 113), (.int 97 0), (.int 0 0), (.ref 190), (.int 99 0), (.int 0 0), (.ref 197), (.int 101 0), (.int 0 0), (.ref 204), (.int 103 0), (.int 0 0), (.ref 211), (.int 113 0), (.int 0 0), (.ref 218), (.int 160 0), (.int 0 0), (.ref 276), (.int 187 0), (.int 0 0), (.ref 312), (.int 335 0), (.int 0 0), (.ref 465), (.int 338 0), (.int 0 0), (.ref 472), (.int 341 0), (.int 0 0), (.ref 479), (.int 471 0), (.int 0 0), (.ref 653), (.int 487 0), (.int 0 0), (.ref 695)]), #[]⟩
noncomputable def o648 (P : Params) : Obj := ⟨(.type "tuple"), none, (.seq #[] 0), #[]⟩
noncomputable def o649 (P : Params) : Obj := ⟨(.type "builtin_function_or_method"), none, (.fields #[(.builtin "type.__prepare__"), (.type "type")]), #[]⟩
noncomputable def o650 (P : Params) : Obj := ⟨(.type "dict"), none, (.dict #[⟨PyData.keyHash P "__module__", (.str "__module__" 1198), (.str "pipeboard.memory" 917)⟩, ⟨PyData.keyHash P "__qualname__", (.str "__qualname__" 1200), (.str "Rom" 1199)⟩, ⟨PyData.keyHash P "__firstlineno__", (.str "__firstlineno__" 1202), (.int 471 1201)⟩, ⟨PyData.keyHash P "__init__", (.str "__init__" 1210), (.ref 661)⟩, ⟨PyData.keyHash P "size", (.str "size" 1217), (.ref 668)⟩, ⟨PyData.keyHash P "load", (.str "load" 1228), (.ref 675)⟩, ⟨PyData.keyHash P "store", (.str "store" 1238), (.ref 682)⟩, ⟨PyData.keyHash P "__static_attributes__", (.str "__static_attributes__" 1240), (.ref 683)⟩] 8), #[]⟩
noncomputable def o651 (P : Params) : Obj := ⟨(.type "tuple"), none, (.seq #[] 0), #[]⟩
noncomputable def o652 (P : Params) : Obj := ⟨.none, none, (.fields #[(.int 473 0), (.int 4 0), (.ref 660), (.int 476 0), (.int 4 0), (.ref 667), (.int 479 0), (.int 4 0), (.ref 674), (.int 485 0), (.int 4 0), (.ref 681)]), #[]⟩
noncomputable def o653 (P : Params) : Obj := ⟨(.type "code"), none, (.fields #[(.str "Rom" 1193), (.str "Rom" 1194), (.str "/claim/cut.py" 1195), (.int 471 0), (.int 0 0), (.int 0 0), (.int 0 0), (.int 0 0), (.ref 651), (.bool false), (.int 181 0), (.ref 652), .none, .none, .none, .none, (.int 1196 0), (.int 471 0), (.str "/claim/cut.py" 1197)]), #[]⟩
noncomputable def o654 (P : Params) : Obj := ⟨(.type "frame"), none, .plain, #[(some (.ref 653)), (some (.ref 3)), (some (.ref 650)), none, (some (.str "pipeboard.memory" 917)), none, (some (.ref 0))]⟩
noncomputable def o655 (P : Params) : Obj := ⟨(.type "tuple"), none, (.seq #[] 0), #[]⟩
noncomputable def o656 (P : Params) : Obj := ⟨.none, none, (.fields #[]), #[]⟩
noncomputable def o657 (P : Params) : Obj := ⟨(.type "tuple"), none, (.seq #[(.str "self" 1206), (.str "octets" 1207)] 0), #[]⟩
noncomputable def o658 (P : Params) : Obj := ⟨(.type "tuple"), none, (.seq #[] 0), #[]⟩
noncomputable def o659 (P : Params) : Obj := ⟨.none, none, (.func ⟨"__init__", "Rom.__init__", fnA (at2 43 0), .stmts (fnB (at2 43 0)), fnS (at2 43 0), 0, [], .none, .none, .none, .none, none, .none, .none, 0⟩), #[]⟩
noncomputable def o660 (P : Params) : Obj := ⟨(.type "code"), none, (.fields #[(.str "__init__" 1203), (.str "Rom.__init__" 1204), (.str "/claim/cut.py" 1205), (.int 473 0), (.int 2 0), (.int 0 0), (.int 0 0), (.int 3 0), (.ref 655), (.bool true), (.int 181 0), (.ref 656), .none, (.ref 657), (.ref 658), (.ref 659), (.int 1208 0), (.int 473 0), (.str "/claim/cut.py" 1209)]), #[]⟩
noncomputable def o661 (P : Params) : Obj := ⟨(.type "function"), none, (.func ⟨"__init__", "Rom.__init__", fnA (at2 43 0), .stmts (fnB (at2 43 0)), fnS (at2 43 0), 3, [], .none, .none, .none, (.str "pipeboard.memory" 917), none, (.ref 660), .none, 0⟩), #[]⟩
noncomputable def o662 (P : Params) : Obj := ⟨(.type "tuple"), none, (.seq #[] 0), #[]⟩
noncomputable def o663 (P : Params) : Obj := ⟨.none, none, (.fields #[]), #[]⟩
noncomputable def o664 (P : Params) : Obj := ⟨(.type "tuple"), none, (.seq #[(.str "self" 1214)] 0), #[]⟩
noncomputable def o665 (P : Params) : Obj := ⟨(.type "tuple"), none, (.seq #[] 0), #[]⟩
noncomputable def o666 (P : Params) : Obj := ⟨.none, none, (.func ⟨"size", "Rom.size", fnA (at2 43 1), .stmts (fnB (at2 43 1)), fnS (at2 43 1), 0, [], .none, .none, .none, .none, none, .none, .none, 0⟩), #[]⟩
noncomputable def o667 (P : Params) : Obj := ⟨(.type "code"), none, (.fields #[(.str "size" 1211), (.str "Rom.size" 1212), (.str "/claim/cut.py" 1213), (.int 476 0), (.int 1 0), (.int 0 0), (.int 0 0), (.int 3 0), (.ref 662), (.bool true), (.int 181 0), (.ref 663), .none, (.ref 664), (.ref 665), (.ref 666), (.int 1215 0), (.int 476 0), (.str "/claim/cut.py" 1216)]), #[]⟩
noncomputable def o668 (P : Params) : Obj := ⟨(.type "function"), none, (.func ⟨"size", "Rom.size", fnA (at2 43 1), .stmts (fnB (at2 43 1)), fnS (at2 43 1), 3, [], .none, .none, .none, (.str "pipeboard.memory" 917), none, (.ref 667), .none, 0⟩), #[]⟩
noncomputable def o669 (P : Params) : Obj := ⟨(.type "tuple"), none, (.seq #[] 0), #[]⟩
noncomputable def o670 (P : Params) : Obj := ⟨.none, none, (.fields #[]), #[]⟩
noncomputable def o671 (P : Params) : Obj := ⟨(.type "tuple"), none, (.seq #[(.str "self" 1221), (.str "offset" 1222), (.str "size" 1223), (.str "value" 1224), (.str "octet" 1225)] 0), #[]⟩
noncomputable def o672 (P : Params) : Obj := ⟨(.type "tuple"), none, (.seq #[] 0), #[]⟩
noncomputable def o673 (P : Params) : Obj := ⟨.none, none, (.func ⟨"load", "Rom.load", fnA (at2 43 2), .stmts (fnB (at2 43 2)), fnS (at2 43 2), 0, [], .none, .none, .none, .none, none, .none, .none, 0⟩), #[]⟩
noncomputable def o674 (P : Params) : Obj := ⟨(.type "code"), none, (.fields #[(.str "load" 1218), (.str "Rom.load" 1219), (.str "/claim/cut.py" 1220), (.int 479 0), (.int 3 0), (.int 0 0), (.int 0 0), (.int 3 0), (.ref 669), (.bool true), (.int 181 0), (.ref 670), .none, (.ref 671), (.ref 672), (.ref 673), (.int 1226 0), (.int 479 0), (.str "/claim/cut.py" 1227)]), #[]⟩
noncomputable def o675 (P : Params) : Obj := ⟨(.type "function"), none, (.func ⟨"load", "Rom.load", fnA (at2 43 2), .stmts (fnB (at2 43 2)), fnS (at2 43 2), 3, [], .none, .none, .none, (.str "pipeboard.memory" 917), none, (.ref 674), .none, 0⟩), #[]⟩
noncomputable def o676 (P : Params) : Obj := ⟨(.type "tuple"), none, (.seq #[] 0), #[]⟩
noncomputable def o677 (P : Params) : Obj := ⟨.none, none, (.fields #[]), #[]⟩
noncomputable def o678 (P : Params) : Obj := ⟨(.type "tuple"), none, (.seq #[(.str "self" 1232), (.str "offset" 1233), (.str "size" 1234), (.str "value" 1235)] 0), #[]⟩
noncomputable def o679 (P : Params) : Obj := ⟨(.type "tuple"), none, (.seq #[] 0), #[]⟩
noncomputable def o680 (P : Params) : Obj := ⟨.none, none, (.func ⟨"store", "Rom.store", fnA (at2 43 3), .stmts (fnB (at2 43 3)), fnS (at2 43 3), 0, [], .none, .none, .none, .none, none, .none, .none, 0⟩), #[]⟩
noncomputable def o681 (P : Params) : Obj := ⟨(.type "code"), none, (.fields #[(.str "store" 1229), (.str "Rom.store" 1230), (.str "/claim/cut.py" 1231), (.int 485 0), (.int 4 0), (.int 0 0), (.int 0 0), (.int 3 0), (.ref 676), (.bool true), (.int 181 0), (.ref 677), .none, (.ref 678), (.ref 679), (.ref 680), (.int 1236 0), (.int 485 0), (.str "/claim/cut.py" 1237)]), #[]⟩
noncomputable def o682 (P : Params) : Obj := ⟨(.type "function"), none, (.func ⟨"store", "Rom.store", fnA (at2 43 3), .stmts (fnB (at2 43 3)), fnS (at2 43 3), 3, [], .none, .none, .none, (.str "pipeboard.memory" 917), none, (.ref 681), .none, 0⟩), #[]⟩
noncomputable def o683 (P : Params) : Obj := ⟨(.type "tuple"), none, (.seq #[(.str "octets" 1239)] 0), #[]⟩
noncomputable def o684 (P : Params) : Obj := ⟨(.type "dict"), none, (.dict #[⟨PyData.keyHash P "__module__", (.str "__module__" 1198), (.str "pipeboard.memory" 917)⟩, ⟨PyData.keyHash P "__firstlineno__", (.str "__firstlineno__" 1202), (.int 471 1201)⟩, ⟨PyData.keyHash P "__init__", (.str "__init__" 1210), (.ref 661)⟩, ⟨PyData.keyHash P "size", (.str "size" 1217), (.ref 668)⟩, ⟨PyData.keyHash P "load", (.str "load" 1228), (.ref 675)⟩, ⟨PyData.keyHash P "store", (.str "store" 1238), (.ref 682)⟩, ⟨PyData.keyHash P "__static_attributes__", (.str "__static_attributes__" 1240), (.ref 683)⟩, ⟨PyData.keyHash P "__dict__", (.str "__dict__" 1242), (.ref 686)⟩, ⟨PyData.keyHash P "__weakref__", (.str "__weakref__" 1244), (.ref 687)⟩, ⟨PyData.keyHash P "__doc__", (.str "__doc__" 1245), .none⟩] 4), #[]⟩
noncomputable def o685 (P : Params) : Obj := ⟨(.type "type"), none, (.cls ⟨"Rom", [(.type "object")], [(.ref 685), (.type "object")], 684, "Rom", true, [], [], false, none, false⟩), #[none, none, (some (.str "Rom" 1191)), (some (.str "Rom" 1199)), (some (.builtin "object.__new__")), (some (.bool true))]⟩
noncomputable def o686 (P : Params) : Obj := ⟨(.type "getset_descriptor"), none, (.fields #[(.str "__dict__" 1241), (.ref 685), (.builtin "function.__dict__"), (.builtin "function.__dict__#set")]), #[]⟩
noncomputable def o687 (P : Params) : Obj := ⟨(.type "getset_descriptor"), none, (.fields #[(.str "__weakref__" 1243), (.ref 685), (.builtin "ExceptionGroup.__weakref__"), .none]), #[]⟩
noncomputable def o688 (P : Params) : Obj := ⟨(.type "super"), none, (.fields #[(.ref 685), (.ref 685), (.ref 685)]), #[]⟩
noncomputable def o689 (P : Params) : Obj := ⟨(.type "builtin_function_or_method"), none, (.fields #[(.builtin "object.__init_subclass__"), (.ref 685)]), #[]⟩
noncomputable def o690 (P : Params) : Obj := ⟨(.type "tuple"), none, (.seq #[] 0), #[]⟩
noncomputable def o691 (P : Params) : Obj := ⟨(.type "builtin_function_or_method"), none, (.fields #[(.builtin "type.__prepare__"), (.type "type")]), #[]⟩
noncomputable def o692 (P : Params) : Obj := ⟨(.type "dict"), none, (.dict #[⟨PyData.keyHash P "__module__", (.str "__module__" 1255), (.str "pipeboard.memory" 917)⟩, ⟨PyData.keyHash P "__qualname__", (.str "__qualname__" 1257), (.str "Bus" 1256)⟩, ⟨PyData.keyHash P "__firstlineno__", (.str "__firstlineno__" 1259), (.int 487 1258)⟩, ⟨PyData.keyHash P "__init__", (.str "__init__" 1267), (.ref 703)⟩, ⟨PyData.keyHash P "attach", (.str "attach" 1277), (.ref 710)⟩, ⟨PyData.keyHash P "stretch_at", (.str "stretch_at" 1287), (.ref 717)⟩, ⟨PyData.keyHash P "load", (.str "load" 1300), (.ref 725)⟩, ⟨PyData.keyHash P "store", (.str "store" 1314), (.ref 733)⟩, ⟨PyData.keyHash P "fetch", (.str "fetch" 1324), (.ref 740)⟩, ⟨PyData.keyHash P "is_memory", (.str "is_memory" 1333), (.ref 747)⟩, ⟨PyData.keyHash P "__static_attributes__", (.str "__static_attributes__" 1336), (.ref 748)⟩] 11), #[]⟩
noncomputable def o693 (P : Params) : Obj := ⟨(.type "tuple"), none, (.seq #[] 0), #[]⟩
noncomputable def o694 (P : Params) : Obj := ⟨.none, none, (.fields #[(.int 489 0), (.int 4 0), (.ref 702), (.int 493 0), (.int 4 0), (.ref 709), (.int 496 0), (.int 4 0), (.ref 716), (.int 502 0), (.int 4 0), (.ref 724), (.int 517 0), (.int 4 0), (.ref 732), (.int 533 0), (.int 4 0), (.ref 739), (.int 544 0), (.int 4 0), (.ref 746)]), #[]⟩
noncomputable def o695 (P : Params) : Obj := ⟨(.type "code"), none, (.fields #[(.str "Bus" 1250), (.str "Bus" 1251), (.str "/claim/cut.py" 1252), (.int 487 0), (.int 0 0), (.int 0 0), (.int 0 0), (.int 0 0), (.ref 693), (.bool false), (.int 181 0), (.ref 694), .none, .none, .none, .none, (.int 1253 0), (.int 487 0), (.str "/claim/cut.py" 1254)]), #[]⟩
noncomputable def o696 (P : Params) : Obj := ⟨(.type "frame"), none, .plain, #[(some (.ref 695)), (some (.ref 3)), (some (.ref 692)), none, (some (.str "pipeboard.memory" 917)), none, (some (.ref 0))]⟩
noncomputable def o697 (P : Params) : Obj := ⟨(.type "tuple"), none, (.seq #[] 0), #[]⟩
noncomputable def o698 (P : Params) : Obj := ⟨.none, none, (.fields #[]), #[]⟩
noncomputable def o699 (P : Params) : Obj := ⟨(.type "tuple"), none, (.seq #[(.str "self" 1263), (.str "memory" 1264)] 0), #[]⟩
noncomputable def o700 (P : Params) : Obj := ⟨(.type "tuple"), none, (.seq #[] 0), #[]⟩
noncomputable def o701 (P : Params) : Obj := ⟨.none, none, (.func ⟨"__init__", "Bus.__init__", fnA (at2 44 0), .stmts (fnB (at2 44 0)), fnS (at2 44 0), 0, [], .none, .none, .none, .none, none, .none, .none, 0⟩), #[]⟩
noncomputable def o702 (P : Params) : Obj := ⟨(.type "code"), none, (.fields #[(.str "__init__" 1260), (.str "Bus.__init__" 1261), (.str "/claim/cut.py" 1262), (.int 489 0), (.int 2 0), (.int 0 0), (.int 0 0), (.int 3 0), (.ref 697), (.bool true), (.int 181 0), (.ref 698), .none, (.ref 699), (.ref 700), (.ref 701), (.int 1265 0), (.int 489 0), (.str "/claim/cut.py" 1266)]), #[]⟩
noncomputable def o703 (P : Params) : Obj := ⟨(.type "function"), none, (.func ⟨"__init__", "Bus.__init__", fnA (at2 44 0), .stmts (fnB (at2 44 0)), fnS (at2 44 0), 3, [], .none, .none, .none, (.str "pipeboard.memory" 917), none, (.ref 702), .none, 0⟩), #[]⟩
noncomputable def o704 (P : Params) : Obj := ⟨(.type "tuple"), none, (.seq #[] 0), #[]⟩
noncomputable def o705 (P : Params) : Obj := ⟨.none, none, (.fields #[]), #[]⟩
noncomputable def o706 (P : Params) : Obj := ⟨(.type "tuple"), none, (.seq #[(.str "self" 1271), (.str "begin" 1272), (.str "end" 1273), (.str "device" 1274)] 0), #[]⟩
noncomputable def o707 (P : Params) : Obj := ⟨(.type "tuple"), none, (.seq #[] 0), #[]⟩
noncomputable def o708 (P : Params) : Obj := ⟨.none, none, (.func ⟨"attach", "Bus.attach", fnA (at2 44 1), .stmts (fnB (at2 44 1)), fnS (at2 44 1), 0, [], .none, .none, .none, .none, none, .none, .none, 0⟩), #[]⟩
noncomputable def o709 (P : Params) : Obj := ⟨(.type "code"), none, (.fields #[(.str "attach" 1268), (.str "Bus.attach" 1269), (.str "/claim/cut.py" 1270), (.int 493 0), (.int 4 0), (.int 0 0), (.int 0 0), (.int 3 0), (.ref 704), (.bool true), (.int 181 0), (.ref 705), .none, (.ref 706), (.ref 707), (.ref 708), (.int 1275 0), (.int 493 0), (.str "/claim/cut.py" 1276)]), #[]⟩
noncomputable def o710 (P : Params) : Obj := ⟨(.type "function"), none, (.func ⟨"attach", "Bus.attach", fnA (at2 44 1), .stmts (fnB (at2 44 1)), fnS (at2 44 1), 3, [], .none, .none, .none, (.str "pipeboard.memory" 917), none, (.ref 709), .none, 0⟩), #[]⟩
noncomputable def o711 (P : Params) : Obj := ⟨(.type "tuple"), none, (.seq #[] 0), #[]⟩
noncomputable def o712 (P : Params) : Obj := ⟨.none, none, (.fields #[]), #[]⟩
noncomputable def o713 (P : Params) : Obj := ⟨(.type "tuple"), none, (.seq #[(.str "self" 1281), (.str "address" 1282), (.str "size" 1283), (.str "stretch" 1284)] 0), #[]⟩
noncomputable def o714 (P : Params) : Obj := ⟨(.type "tuple"), none, (.seq #[] 0), #[]⟩
noncomputable def o715 (P : Params) : Obj := ⟨.none, none, (.func ⟨"stretch_at", "Bus.stretch_at", fnA (at2 44 2), .stmts (fnB (at2 44 2)), fnS (at2 44 2), 0, [], .none, .none, .none, .none, none, .none, .none, 0⟩), #[]⟩
noncomputable def o716 (P : Params) : Obj := ⟨(.type "code"), none, (.fields #[(.str "stretch_at" 1278), (.str "Bus.stretch_at" 1279), (.str "/claim/cut.py" 1280), (.int 496 0), (.int 3 0), (.int 0 0), (.int 0 0), (.int 3 0), (.ref 711), (.bool true), (.int 181 0), (.ref 712), .none, (.ref 713), (.ref 714), (.ref 715), (.int 1285 0), (.int 496 0), (.str "/claim/cut.py" 1286)]), #[]⟩
noncomputable def o717 (P : Params) : Obj := ⟨(.type "function"), none, (.func ⟨"stretch_at", "Bus.stretch_at", fnA (at2 44 2), .stmts (fnB (at2 44 2)), fnS (at2 44 2), 3, [], .none, .none, .none, (.str "pipeboard.memory" 917), none, (.ref 716), .none, 0⟩), #[]⟩
noncomputable def o718 (P : Params) : Obj := ⟨(.type "tuple"), none, (.seq #[(.int 5 303)] 0), #[]⟩
noncomputable def o719 (P : Params) : Obj := ⟨(.type "tuple"), none, (.seq #[] 0), #[]⟩
noncomputable def o720 (P : Params) : Obj := ⟨.none, none, (.fields #[]), #[]⟩
noncomputable def o721 (P : Params) : Obj := ⟨(.type "tuple"), none, (.seq #[(.str "self" 1292), (.str "address" 1293), (.str "size" 1294), (.str "cause" 1295), (.str "memory" 1296), (.str "stretch" 1297)] 0), #[]⟩
noncomputable def o722 (P : Params) : Obj := ⟨(.type "tuple"), none, (.seq #[] 0), #[]⟩
noncomputable def o723 (P : Params) : Obj := ⟨.none, none, (.func ⟨"load", "Bus.load", fnA (at2 44 3), .stmts (fnB (at2 44 3)), fnS (at2 44 3), 0, [], .none, .none, .none, .none, none, .none, .none, 0⟩), #[]⟩
noncomputable def o724 (P : Params) : Obj := ⟨(.type "code"), none, (.fields #[(.str "load" 1289), (.str "Bus.load" 1290), (.str "/claim/cut.py" 1291), (.int 502 0), (.int 4 0), (.int 0 0), (.int 0 0), (.int 3 0), (.ref 719), (.bool true), (.int 181 0), (.ref 720), .none, (.ref 721), (.ref 722), (.ref 723), (.int 1298 0), (.int 502 0), (.str "/claim/cut.py" 1299)]), #[]⟩
noncomputable def o725 (P : Params) : Obj := ⟨(.type "function"), none, (.func ⟨"load", "Bus.load", fnA (at2 44 3), .stmts (fnB (at2 44 3)), fnS (at2 44 3), 3, [], (.ref 718), .none, .none, (.str "pipeboard.memory" 917), none, (.ref 724), .none, 0⟩), #[]⟩
noncomputable def o726 (P : Params) : Obj := ⟨(.type "tuple"), none, (.seq #[(.int 7 307)] 0), #[]⟩
noncomputable def o727 (P : Params) : Obj := ⟨(.type "tuple"), none, (.seq #[] 0), #[]⟩
noncomputable def o728 (P : Params) : Obj := ⟨.none, none, (.fields #[]), #[]⟩
noncomputable def o729 (P : Params) : Obj := ⟨(.type "tuple"), none, (.seq #[(.str "self" 1305), (.str "address" 1306), (.str "size" 1307), (.str "value" 1308), (.str "cause" 1309), (.str "memory" 1310), (.str "stretch" 1311)] 0), #[]⟩
noncomputable def o730 (P : Params) : Obj := ⟨(.type "tuple"), none, (.seq #[] 0), #[]⟩
noncomputable def o731 (P : Params) : Obj := ⟨.none, none, (.func ⟨"store", "Bus.store", fnA (at2 44 4), .stmts (fnB (at2 44 4)), fnS (at2 44 4), 0, [], .none, .none, .none, .none, none, .none, .none, 0⟩), #[]⟩
noncomputable def o732 (P : Params) : Obj := ⟨(.type "code"), none, (.fields #[(.str "store" 1302), (.str "Bus.store" 1303), (.str "/claim/cut.py" 1304), (.int 517 0), (.int 5 0), (.int 0 0), (.int 0 0), (.int 3 0), (.ref 727), (.bool true), (.int 181 0), (.ref 728), .none, (.ref 729), (.ref 730), (.ref 731), (.int 1312 0), (.int 517 0), (.str "/claim/cut.py" 1313)]), #[]⟩
noncomputable def o733 (P : Params) : Obj := ⟨(.type "function"), none, (.func ⟨"store", "Bus.store", fnA (at2 44 4), .stmts (fnB (at2 44 4)), fnS (at2 44 4), 3, [], (.ref 726), .none, .none, (.str "pipeboard.memory" 917), none, (.ref 732), .none, 0⟩), #[]⟩
noncomputable def o734 (P : Params) : Obj := ⟨(.type "tuple"), none, (.seq #[] 0), #[]⟩
noncomputable def o735 (P : Params) : Obj := ⟨.none, none, (.fields #[]), #[]⟩
noncomputable def o736 (P : Params) : Obj := ⟨(.type "tuple"), none, (.seq #[(.str "self" 1318), (.str "address" 1319), (.str "memory" 1320), (.str "stretch" 1321)] 0), #[]⟩
noncomputable def o737 (P : Params) : Obj := ⟨(.type "tuple"), none, (.seq #[] 0), #[]⟩
noncomputable def o738 (P : Params) : Obj := ⟨.none, none, (.func ⟨"fetch", "Bus.fetch", fnA (at2 44 5), .stmts (fnB (at2 44 5)), fnS (at2 44 5), 0, [], .none, .none, .none, .none, none, .none, .none, 0⟩), #[]⟩
noncomputable def o739 (P : Params) : Obj := ⟨(.type "code"), none, (.fields #[(.str "fetch" 1315), (.str "Bus.fetch" 1316), (.str "/claim/cut.py" 1317), (.int 533 0), (.int 2 0), (.int 0 0), (.int 0 0), (.int 3 0), (.ref 734), (.bool true), (.int 181 0), (.ref 735), .none, (.ref 736), (.ref 737), (.ref 738), (.int 1322 0), (.int 533 0), (.str "/claim/cut.py" 1323)]), #[]⟩
noncomputable def o740 (P : Params) : Obj := ⟨(.type "function"), none, (.func ⟨"fetch", "Bus.fetch", fnA (at2 44 5), .stmts (fnB (at2 44 5)), fnS (at2 44 5), 3, [], .none, .none, .none, (.str "pipeboard.memory" 917), none, (.ref 739), .none, 0⟩), #[]⟩
noncomputable def o741 (P : Params) : Obj := ⟨(.type "tuple"), none, (.seq #[] 0), #[]⟩
noncomputable def o742 (P : Params) : Obj := ⟨.none, none, (.fields #[]), #[]⟩
noncomputable def o743 (P : Params) : Obj := ⟨(.type "tuple"), none, (.seq #[(.str "self" 1328), (.str "address" 1329), (.str "size" 1330)] 0), #[]⟩
noncomputable def o744 (P : Params) : Obj := ⟨(.type "tuple"), none, (.seq #[] 0), #[]⟩
noncomputable def o745 (P : Params) : Obj := ⟨.none, none, (.func ⟨"is_memory", "Bus.is_memory", fnA (at2 44 6), .stmts (fnB (at2 44 6)), fnS (at2 44 6), 0, [], .none, .none, .none, .none, none, .none, .none, 0⟩), #[]⟩
noncomputable def o746 (P : Params) : Obj := ⟨(.type "code"), none, (.fields #[(.str "is_memory" 1325), (.str "Bus.is_memory" 1326), (.str "/claim/cut.py" 1327), (.int 544 0), (.int 3 0), (.int 0 0), (.int 0 0), (.int 3 0), (.ref 741), (.bool true), (.int 181 0), (.ref 742), .none, (.ref 743), (.ref 744), (.ref 745), (.int 1331 0), (.int 544 0), (.str "/claim/cut.py" 1332)]), #[]⟩
noncomputable def o747 (P : Params) : Obj := ⟨(.type "function"), none, (.func ⟨"is_memory", "Bus.is_memory", fnA (at2 44 6), .stmts (fnB (at2 44 6)), fnS (at2 44 6), 3, [], .none, .none, .none, (.str "pipeboard.memory" 917), none, (.ref 746), .none, 0⟩), #[]⟩
noncomputable def o748 (P : Params) : Obj := ⟨(.type "tuple"), none, (.seq #[(.str "memory" 1334), (.str "stretches" 1335)] 0), #[]⟩
noncomputable def o749 (P : Params) : Obj := ⟨(.type "dict"), none, (.dict #[⟨PyData.keyHash P "__module__", (.str "__module__" 1255), (.str "pipeboard.memory" 917)⟩, ⟨PyData.keyHash P "__firstlineno__", (.str "__firstlineno__" 1259), (.int 487 1258)⟩, ⟨PyData.keyHash P "__init__", (.str "__init__" 1267), (.ref 703)⟩, ⟨PyData.keyHash P "attach", (.str "attach" 1277), (.ref 710)⟩, ⟨PyData.keyHash P "stretch_at", (.str "stretch_at" 1287), (.ref 717)⟩, ⟨PyData.keyHash P "load", (.str "load" 1300), (.ref 725)⟩, ⟨PyData.keyHash P "store", (.str "store" 1314), (.ref 733)⟩, ⟨PyData.keyHash P "fetch", (.str "fetch" 1324), (.ref 740)⟩, ⟨PyData.keyHash P "is_memory", (.str "is_memory" 1333), (.ref 747)⟩, ⟨PyData.keyHash P "__static_attributes__", (.str "__static_attributes__" 1336), (.ref 748)⟩, ⟨PyData.keyHash P "__dict__", (.str "__dict__" 1338), (.ref 751)⟩, ⟨PyData.keyHash P "__weakref__", (.str "__weakref__" 1340), (.ref 752)⟩, ⟨PyData.keyHash P "__doc__", (.str "__doc__" 1341), .none⟩] 4), #[]⟩
noncomputable def o750 (P : Params) : Obj := ⟨(.type "type"), none, (.cls ⟨"Bus", [(.type "object")], [(.ref 750), (.type "object")], 749, "Bus", true, [], [], false, none, false⟩), #[none, none, (some (.str "Bus" 1248)), (some (.str "Bus" 1256)), (some (.builtin "object.__new__")), (some (.bool true))]⟩
noncomputable def o751 (P : Params) : Obj := ⟨(.type "getset_descriptor"), none, (.fields #[(.str "__dict__" 1337), (.ref 750), (.builtin "function.__dict__"), (.builtin "function.__dict__#set")]), #[]⟩
noncomputable def o752 (P : Params) : Obj := ⟨(.type "getset_descriptor"), none, (.fields #[(.str "__weakref__" 1339), (.ref 750), (.builtin "ExceptionGroup.__weakref__"), .none]), #[]⟩
noncomputable def o753 (P : Params) : Obj := ⟨(.type "super"), none, (.fields #[(.ref 750), (.ref 750), (.ref 750)]), #[]⟩
noncomputable def o754 (P : Params) : Obj := ⟨(.type "builtin_function_or_method"), none, (.fields #[(.builtin "object.__init_subclass__"), (.ref 750)]), #[]⟩
noncomputable def o3v10 (P : Params) : Obj := ⟨(.type "dict"), none, (.dict #[⟨PyData.keyHash P "__name__", (.str "__name__" 165), (.str "law_pf0221_01" 1502)⟩, ⟨PyData.keyHash P "__doc__", (.str "__doc__" 166), .none⟩, ⟨PyData.keyHash P "__package__", (.str "__package__" 167), .none⟩, ⟨PyData.keyHash P "__loader__", (.str "__loader__" 168), (.builtin "__main__.__loader__#opaque")⟩, ⟨PyData.keyHash P "__spec__", (.str "__spec__" 169), .none⟩, ⟨PyData.keyHash P "__annotations__", (.str "__annotations__" 170), (.ref 6)⟩, ⟨PyData.keyHash P "__builtins__", (.str "__builtins__" 171), (.ref 4)⟩, ⟨PyData.keyHash P "__file__", (.str "__file__" 173), (.str "/claim/cut.py" 172)⟩, ⟨PyData.keyHash P "__cached__", (.str "__cached__" 174), .none⟩, ⟨PyData.keyHash P "_wall", (.str "_wall" 193), (.ref 21)⟩, ⟨PyData.keyHash P "BoardError", (.str "BoardError" 223), (.ref 39)⟩, ⟨PyData.keyHash P "BadArgument", (.str "BadArgument" 239), (.ref 52)⟩, ⟨PyData.keyHash P "BadAddress", (.str "BadAddress" 264), (.ref 71)⟩, ⟨PyData.keyHash P "NoRoom", (.str "NoRoom" 280), (.ref 83)⟩, ⟨PyData.keyHash P "Trap", (.str "Trap" 336), (.ref 103)⟩, ⟨PyData.keyHash P "ENTRY", (.str "ENTRY" 340), (.int 4 339)⟩, ⟨PyData.keyHash P "VALID", (.str "VALID" 342), (.int 1 341)⟩, ⟨PyData.keyHash P "READ", (.str "READ" 344), (.int 2 343)⟩, ⟨PyData.keyHash P "WRITE", (.str "WRITE" 346), (.int 4 345)⟩, ⟨PyData.keyHash P "EXECUTE", (.str "EXECUTE" 348), (.int 8 347)⟩, ⟨PyData.keyHash P "USER", (.str "USER" 350), (.int 16 349)⟩, ⟨PyData.keyHash P "ACCESSED", (.str "ACCESSED" 352), (.int 64 351)⟩, ⟨PyData.keyHash P "DIRTY", (.str "DIRTY" 354), (.int 128 353)⟩, ⟨PyData.keyHash P "LEAF", (.str "LEAF" 356), (.int 10 355)⟩, ⟨PyData.keyHash P "FLAG_BITS", (.str "FLAG_BITS" 358), (.int 10 357)⟩, ⟨PyData.keyHash P "FLAGS", (.str "FLAGS" 363), (.int 1023 362)⟩, ⟨PyData.keyHash P "FLAG_NAMES", (.str "FLAG_NAMES" 365), (.str "vrwxugad" 364)⟩, ⟨PyData.keyHash P "DIGITS", (.str "DIGITS" 367), (.str "0123456789abcdef" 366)⟩, ⟨PyData.keyHash P "FETCH", (.str "FETCH" 369), (.str "fetch" 368)⟩, ⟨PyData.keyHash P "LOAD", (.str "LOAD" 371), (.str "load" 370)⟩, ⟨PyData.keyHash P "STORE", (.str "STORE" 373), (.str "store" 372)⟩, ⟨PyData.keyHash P "PAGE_FAULTS", (.str "PAGE_FAULTS" 380), (.ref 106)⟩, ⟨PyData.keyHash P "ACCESS_FAULTS", (.str "ACCESS_FAULTS" 387), (.ref 107)⟩, ⟨PyData.keyHash P "USER_MODE", (.str "USER_MODE" 389), (.int 0 388)⟩, ⟨PyData.keyHash P "Layout", (.str "Layout" 494), (.ref 182)⟩, ⟨PyData.keyHash P "eight_digits", (.str "eight_digits" 500), (.ref 191)⟩, ⟨PyData.keyHash P "is_leaf", (.str "is_leaf" 507), (.ref 198)⟩, ⟨PyData.keyHash P "is_sound", (.str "is_sound" 514), (.ref 205)⟩, ⟨PyData.keyHash P "may", (.str "may" 525), (.ref 212)⟩, ⟨PyData.keyHash P "Walker", (.str "Walker" 627), (.ref 266)⟩, ⟨PyData.keyHash P "Quick", (.str "Quick" 685), (.ref 302)⟩, ⟨PyData.keyHash P "Tables", (.str "Tables" 916), (.ref 454)⟩, ⟨PyData.keyHash P "WORD", (.str "WORD" 920), (.int 4 919)⟩, ⟨PyData.keyHash P "MASK", (.str "MASK" 926), (.int 4294967295 925)⟩, ⟨PyData.keyHash P "SPACE", (.str "SPACE" 930), (.int 4294967296 929)⟩, ⟨PyData.keyHash P "SIZES", (.str "SIZES" 934), (.ref 459)⟩, ⟨PyData.keyHash P "need_size", (.str "need_size" 941), (.ref 466)⟩, ⟨PyData.keyHash P "need_stretch", (.str "need_stretch" 949), (.ref 473)⟩, ⟨PyData.keyHash P "Memory", (.str "Memory" 1190), (.ref 643)⟩, ⟨PyData.keyHash P "Rom", (.str "Rom" 1247), (.ref 685)⟩, ⟨PyData.keyHash P "Bus", (.str "Bus" 1343), (.ref 750)⟩, ⟨PyData.keyHash P "TAKEN", (.str "TAKEN" 1347), (.int 5 1346)⟩, ⟨PyData.keyHash P "FREED", (.str "FREED" 1349), (.int 1 1348)⟩, ⟨PyData.keyHash P "Pages", (.str "Pages" 1501), (.ref 870)⟩, ⟨PyData.keyHash P "_law_place", (.str "_law_place" 1515), (.ref 881)⟩, ⟨PyData.keyHash P "_law_store", (.str "_law_store" 1526), (.ref 888)⟩, ⟨PyData.keyHash P "_law_stood", (.str "_law_stood" 1537), (.ref 895)⟩, ⟨PyData.keyHash P "_law_deed_right", (.str "_law_deed_right" 1554), (.ref 902)⟩, ⟨PyData.keyHash P "_law_page_right", (.str "_law_page_right" 1560), (.ref 907)⟩, ⟨PyData.keyHash P "law", (.str "law" 1566), (.ref 912)⟩] 60), #[]⟩
noncomputable def o12v9 (P : Params) : Obj := ⟨.none, none, (.fields #[(.int 1 0), (.int 0 0), (.ref 20), (.int 5 0), (.int 0 0), (.ref 27), (.int 10 0), (.int 0 0), (.ref 48), (.int 12 0), (.int 0 0), (.ref 60), (.int 17 0), (.int 0 0), (.ref 79), (.int 19 0), (.int 0 0), (.ref 91), (.int 59 0), (.int 0 0), (.ref 113), (.int 97 0), (.int 0 0), (.ref 190), (.int 99 0), (.int 0 0), (.ref 197), (.int 101 0), (.int 0 0), (.ref 204), (.int 103 0), (.int 0 0), (.ref 211), (.int 113 0), (.int 0 0), (.ref 218), (.int 160 0), (.int 0 0), (.ref 276), (.int 187 0), (.int 0 0), (.ref 312), (.int 335 0), (.int 0 0), (.ref 465), (.int 338 0), (.int 0 0), (.ref 472), (.int 341 0), (.int 0 0), (.ref 479), (.int 471 0), (.int 0 0), (.ref 653), (.int 487 0), (.int 0 0), (.ref 695), (.int 549 0), (.int 0 0), (.ref 760), (.int 626 0), (.int 0 0), (.ref 880), (.int 629 0), (.int 0 0), (.ref 887), (.int 632 0), (.int 0 0), (.ref 894), (.int 638 0), (.int 0 0), (.ref 901), (.int 652 0), (.int 0 0), (.ref 906), (.int 656 0), (.int 0 0), (.ref 911)]), #[]⟩
noncomputable def o755 (P : Params) : Obj := ⟨(.type "tuple"), none, (.seq #[] 0), #[]⟩
noncomputable def o756 (P : Params) : Obj := ⟨(.type "builtin_function_or_method"), none, (.fields #[(.builtin "type.__prepare__"), (.type "type")]), #[]⟩
noncomputable def o757 (P : Params) : Obj := ⟨(.type "dict"), none, (.dict #[⟨PyData.keyHash P "__module__", (.str "__module__" 1357), (.str "pipeboard.pages" 1344)⟩, ⟨PyData.keyHash P "__qualname__", (.str "__qualname__" 1359), (.str "Pages" 1358)⟩, ⟨PyData.keyHash P "__firstlineno__", (.str "__firstlineno__" 1361), (.int 549 1360)⟩, ⟨PyData.keyHash P "__init__", (.str "__init__" 1373), (.ref 769)⟩, ⟨PyData.keyHash P "address_of", (.str "address_of" 1381), (.ref 776)⟩, ⟨PyData.keyHash P "is_page", (.str "is_page" 1391), (.ref 783)⟩, ⟨PyData.keyHash P "holders", (.str "holders" 1399), (.ref 790)⟩, ⟨PyData.keyHash P "need_held", (.str "need_held" 1407), (.ref 797)⟩, ⟨PyData.keyHash P "free_count", (.str "free_count" 1414), (.ref 804)⟩, ⟨PyData.keyHash P "need_free", (.str "need_free" 1422), (.ref 811)⟩, ⟨PyData.keyHash P "filled", (.str "filled" 1431), (.ref 818)⟩, ⟨PyData.keyHash P "take", (.str "take" 1439), (.ref 825)⟩, ⟨PyData.keyHash P "take_clear", (.str "take_clear" 1446), (.ref 832)⟩, ⟨PyData.keyHash P "take_many", (.str "take_many" 1454), (.ref 839)⟩, ⟨PyData.keyHash P "share", (.str "share" 1462), (.ref 846)⟩, ⟨PyData.keyHash P "give", (.str "give" 1470), (.ref 853)⟩, ⟨PyData.keyHash P "own", (.str "own" 1478), (.ref 860)⟩, ⟨PyData.keyHash P "all_held", (.str "all_held" 1485), (.ref 867)⟩, ⟨PyData.keyHash P "__static_attributes__", (.str "__static_attributes__" 1494), (.ref 868)⟩] 19), #[]⟩
noncomputable def o758 (P : Params) : Obj := ⟨(.type "tuple"), none, (.seq #[] 0), #[]⟩
noncomputable def o759 (P : Params) : Obj := ⟨.none, none, (.fields #[(.int 551 0), (.int 4 0), (.ref 768), (.int 563 0), (.int 4 0), (.ref 775), (.int 566 0), (.int 4 0), (.ref 782), (.int 570 0), (.int 4 0), (.ref 789), (.int 575 0), (.int 4 0), (.ref 796), (.int 579 0), (.int 4 0), (.ref 803), (.int 582 0), (.int 4 0), (.ref 810), (.int 586 0), (.int 4 0), (.ref 817), (.int 590 0), (.int 4 0), (.ref 824), (.int 601 0), (.int 4 0), (.ref 831), (.int 604 0), (.int 4 0), (.ref 838), (.int 607 0), (.int 4 0), (.ref 845), (.int 610 0), (.int 4 0), (.ref 852), (.int 620 0), (.int 4 0), (.ref 859), (.int 623 0), (.int 4 0), (.ref 866)]), #[]⟩
noncomputable def o760 (P : Params) : Obj := ⟨(.type "code"), none, (.fields #[(.str "Pages" 1352), (.str "Pages" 1353), (.str "/claim/cut.py" 1354), (.int 549 0), (.int 0 0), (.int 0 0), (.int 0 0), (.int 0 0), (.ref 758), (.bool false), (.int 181 0), (.ref 759), .none, .none, .none, .none, (.int 1355 0), (.int 549 0), (.str "/claim/cut.py" 1356)]), #[]⟩
noncomputable def o761 (P : Params) : Obj := ⟨(.type "frame"), none, .plain, #[(some (.ref 760)), (some (.ref 3)), (some (.ref 757)), none, (some (.str "pipeboard.pages" 1344)), none, (some (.ref 0))]⟩
noncomputable def o762 (P : Params) : Obj := ⟨(.type "tuple"), none, (.seq #[(.bool true)] 0), #[]⟩
noncomputable def o763 (P : Params) : Obj := ⟨(.type "tuple"), none, (.seq #[] 0), #[]⟩
noncomputable def o764 (P : Params) : Obj := ⟨.none, none, (.fields #[]), #[]⟩
noncomputable def o765 (P : Params) : Obj := ⟨(.type "tuple"), none, (.seq #[(.str "self" 1365), (.str "memory" 1366), (.str "begin" 1367), (.str "count" 1368), (.str "size" 1369), (.str "fill" 1370)] 0), #[]⟩
noncomputable def o766 (P : Params) : Obj := ⟨(.type "tuple"), none, (.seq #[] 0), #[]⟩
noncomputable def o767 (P : Params) : Obj := ⟨.none, none, (.func ⟨"__init__", "Pages.__init__", fnA (at2 48 0), .stmts (fnB (at2 48 0)), fnS (at2 48 0), 0, [], .none, .none, .none, .none, none, .none, .none, 0⟩), #[]⟩
noncomputable def o768 (P : Params) : Obj := ⟨(.type "code"), none, (.fields #[(.str "__init__" 1362), (.str "Pages.__init__" 1363), (.str "/claim/cut.py" 1364), (.int 551 0), (.int 6 0), (.int 0 0), (.int 0 0), (.int 3 0), (.ref 763), (.bool true), (.int 181 0), (.ref 764), .none, (.ref 765), (.ref 766), (.ref 767), (.int 1371 0), (.int 551 0), (.str "/claim/cut.py" 1372)]), #[]⟩
noncomputable def o769 (P : Params) : Obj := ⟨(.type "function"), none, (.func ⟨"__init__", "Pages.__init__", fnA (at2 48 0), .stmts (fnB (at2 48 0)), fnS (at2 48 0), 3, [], (.ref 762), .none, .none, (.str "pipeboard.pages" 1344), none, (.ref 768), .none, 0⟩), #[]⟩
noncomputable def o770 (P : Params) : Obj := ⟨(.type "tuple"), none, (.seq #[] 0), #[]⟩
noncomputable def o771 (P : Params) : Obj := ⟨.none, none, (.fields #[]), #[]⟩
noncomputable def o772 (P : Params) : Obj := ⟨(.type "tuple"), none, (.seq #[(.str "self" 1377), (.str "index" 1378)] 0), #[]⟩
noncomputable def o773 (P : Params) : Obj := ⟨(.type "tuple"), none, (.seq #[] 0), #[]⟩
noncomputable def o774 (P : Params) : Obj := ⟨.none, none, (.func ⟨"address_of", "Pages.address_of", fnA (at2 48 1), .stmts (fnB (at2 48 1)), fnS (at2 48 1), 0, [], .none, .none, .none, .none, none, .none, .none, 0⟩), #[]⟩
noncomputable def o775 (P : Params) : Obj := ⟨(.type "code"), none, (.fields #[(.str "address_of" 1374), (.str "Pages.address_of" 1375), (.str "/claim/cut.py" 1376), (.int 563 0), (.int 2 0), (.int 0 0), (.int 0 0), (.int 3 0), (.ref 770), (.bool true), (.int 181 0), (.ref 771), .none, (.ref 772), (.ref 773), (.ref 774), (.int 1379 0), (.int 563 0), (.str "/claim/cut.py" 1380)]), #[]⟩
noncomputable def o776 (P : Params) : Obj := ⟨(.type "function"), none, (.func ⟨"address_of", "Pages.address_of", fnA (at2 48 1), .stmts (fnB (at2 48 1)), fnS (at2 48 1), 3, [], .none, .none, .none, (.str "pipeboard.pages" 1344), none, (.ref 775), .none, 0⟩), #[]⟩
noncomputable def o777 (P : Params) : Obj := ⟨(.type "tuple"), none, (.seq #[] 0), #[]⟩
noncomputable def o778 (P : Params) : Obj := ⟨.none, none, (.fields #[]), #[]⟩
noncomputable def o779 (P : Params) : Obj := ⟨(.type "tuple"), none, (.seq #[(.str "self" 1385), (.str "address" 1386), (.str "index" 1387), (.str "inside" 1388)] 0), #[]⟩
noncomputable def o780 (P : Params) : Obj := ⟨(.type "tuple"), none, (.seq #[] 0), #[]⟩
noncomputable def o781 (P : Params) : Obj := ⟨.none, none, (.func ⟨"is_page", "Pages.is_page", fnA (at2 48 2), .stmts (fnB (at2 48 2)), fnS (at2 48 2), 0, [], .none, .none, .none, .none, none, .none, .none, 0⟩), #[]⟩
noncomputable def o782 (P : Params) : Obj := ⟨(.type "code"), none, (.fields #[(.str "is_page" 1382), (.str "Pages.is_page" 1383), (.str "/claim/cut.py" 1384), (.int 566 0), (.int 2 0), (.int 0 0), (.int 0 0), (.int 3 0), (.ref 777), (.bool true), (.int 181 0), (.ref 778), .none, (.ref 779), (.ref 780), (.ref 781), (.int 1389 0), (.int 566 0), (.str "/claim/cut.py" 1390)]), #[]⟩
noncomputable def o783 (P : Params) : Obj := ⟨(.type "function"), none, (.func ⟨"is_page", "Pages.is_page", fnA (at2 48 2), .stmts (fnB (at2 48 2)), fnS (at2 48 2), 3, [], .none, .none, .none, (.str "pipeboard.pages" 1344), none, (.ref 782), .none, 0⟩), #[]⟩
noncomputable def o784 (P : Params) : Obj := ⟨(.type "tuple"), none, (.seq #[] 0), #[]⟩
noncomputable def o785 (P : Params) : Obj := ⟨.none, none, (.fields #[]), #[]⟩
noncomputable def o786 (P : Params) : Obj := ⟨(.type "tuple"), none, (.seq #[(.str "self" 1395), (.str "address" 1396)] 0), #[]⟩
noncomputable def o787 (P : Params) : Obj := ⟨(.type "tuple"), none, (.seq #[] 0), #[]⟩
noncomputable def o788 (P : Params) : Obj := ⟨.none, none, (.func ⟨"holders", "Pages.holders", fnA (at2 48 3), .stmts (fnB (at2 48 3)), fnS (at2 48 3), 0, [], .none, .none, .none, .none, none, .none, .none, 0⟩), #[]⟩
noncomputable def o789 (P : Params) : Obj := ⟨(.type "code"), none, (.fields #[(.str "holders" 1392), (.str "Pages.holders" 1393), (.str "/claim/cut.py" 1394), (.int 570 0), (.int 2 0), (.int 0 0), (.int 0 0), (.int 3 0), (.ref 784), (.bool true), (.int 181 0), (.ref 785), .none, (.ref 786), (.ref 787), (.ref 788), (.int 1397 0), (.int 570 0), (.str "/claim/cut.py" 1398)]), #[]⟩
noncomputable def o790 (P : Params) : Obj := ⟨(.type "function"), none, (.func ⟨"holders", "Pages.holders", fnA (at2 48 3), .stmts (fnB (at2 48 3)), fnS (at2 48 3), 3, [], .none, .none, .none, (.str "pipeboard.pages" 1344), none, (.ref 789), .none, 0⟩), #[]⟩
noncomputable def o791 (P : Params) : Obj := ⟨(.type "tuple"), none, (.seq #[] 0), #[]⟩
noncomputable def o792 (P : Params) : Obj := ⟨.none, none, (.fields #[]), #[]⟩
noncomputable def o793 (P : Params) : Obj := ⟨(.type "tuple"), none, (.seq #[(.str "self" 1403), (.str "address" 1404)] 0), #[]⟩
noncomputable def o794 (P : Params) : Obj := ⟨(.type "tuple"), none, (.seq #[] 0), #[]⟩
noncomputable def o795 (P : Params) : Obj := ⟨.none, none, (.func ⟨"need_held", "Pages.need_held", fnA (at2 48 4), .stmts (fnB (at2 48 4)), fnS (at2 48 4), 0, [], .none, .none, .none, .none, none, .none, .none, 0⟩), #[]⟩
noncomputable def o796 (P : Params) : Obj := ⟨(.type "code"), none, (.fields #[(.str "need_held" 1400), (.str "Pages.need_held" 1401), (.str "/claim/cut.py" 1402), (.int 575 0), (.int 2 0), (.int 0 0), (.int 0 0), (.int 3 0), (.ref 791), (.bool true), (.int 181 0), (.ref 792), .none, (.ref 793), (.ref 794), (.ref 795), (.int 1405 0), (.int 575 0), (.str "/claim/cut.py" 1406)]), #[]⟩
noncomputable def o797 (P : Params) : Obj := ⟨(.type "function"), none, (.func ⟨"need_held", "Pages.need_held", fnA (at2 48 4), .stmts (fnB (at2 48 4)), fnS (at2 48 4), 3, [], .none, .none, .none, (.str "pipeboard.pages" 1344), none, (.ref 796), .none, 0⟩), #[]⟩
noncomputable def o798 (P : Params) : Obj := ⟨(.type "tuple"), none, (.seq #[] 0), #[]⟩
noncomputable def o799 (P : Params) : Obj := ⟨.none, none, (.fields #[]), #[]⟩
noncomputable def o800 (P : Params) : Obj := ⟨(.type "tuple"), none, (.seq #[(.str "self" 1411)] 0), #[]⟩
noncomputable def o801 (P : Params) : Obj := ⟨(.type "tuple"), none, (.seq #[] 0), #[]⟩
noncomputable def o802 (P : Params) : Obj := ⟨.none, none, (.func ⟨"free_count", "Pages.free_count", fnA (at2 48 5), .stmts (fnB (at2 48 5)), fnS (at2 48 5), 0, [], .none, .none, .none, .none, none, .none, .none, 0⟩), #[]⟩
noncomputable def o803 (P : Params) : Obj := ⟨(.type "code"), none, (.fields #[(.str "free_count" 1408), (.str "Pages.free_count" 1409), (.str "/claim/cut.py" 1410), (.int 579 0), (.int 1 0), (.int 0 0), (.int 0 0), (.int 3 0), (.ref 798), (.bool true), (.int 181 0), (.ref 799), .none, (.ref 800), (.ref 801), (.ref 802), (.int 1412 0), (.int 579 0), (.str "/claim/cut.py" 1413)]), #[]⟩
noncomputable def o804 (P : Params) : Obj := ⟨(.type "function"), none, (.func ⟨"free_count", "Pages.free_count", fnA (at2 48 5), .stmts (fnB (at2 48 5)), fnS (at2 48 5), 3, [], .none, .none, .none, (.str "pipeboard.pages" 1344), none, (.ref 803), .none, 0⟩), #[]⟩
noncomputable def o805 (P : Params) : Obj := ⟨(.type "tuple"), none, (.seq #[] 0), #[]⟩
noncomputable def o806 (P : Params) : Obj := ⟨.none, none, (.fields #[]), #[]⟩
noncomputable def o807 (P : Params) : Obj := ⟨(.type "tuple"), none, (.seq #[(.str "self" 1418), (.str "count" 1419)] 0), #[]⟩
noncomputable def o808 (P : Params) : Obj := ⟨(.type "tuple"), none, (.seq #[] 0), #[]⟩
noncomputable def o809 (P : Params) : Obj := ⟨.none, none, (.func ⟨"need_free", "Pages.need_free", fnA (at2 48 6), .stmts (fnB (at2 48 6)), fnS (at2 48 6), 0, [], .none, .none, .none, .none, none, .none, .none, 0⟩), #[]⟩
noncomputable def o810 (P : Params) : Obj := ⟨(.type "code"), none, (.fields #[(.str "need_free" 1415), (.str "Pages.need_free" 1416), (.str "/claim/cut.py" 1417), (.int 582 0), (.int 2 0), (.int 0 0), (.int 0 0), (.int 3 0), (.ref 805), (.bool true), (.int 181 0), (.ref 806), .none, (.ref 807), (.ref 808), (.ref 809), (.int 1420 0), (.int 582 0), (.str "/claim/cut.py" 1421)]), #[]⟩
noncomputable def o811 (P : Params) : Obj := ⟨(.type "function"), none, (.func ⟨"need_free", "Pages.need_free", fnA (at2 48 6), .stmts (fnB (at2 48 6)), fnS (at2 48 6), 3, [], .none, .none, .none, (.str "pipeboard.pages" 1344), none, (.ref 810), .none, 0⟩), #[]⟩
noncomputable def o812 (P : Params) : Obj := ⟨(.type "tuple"), none, (.seq #[] 0), #[]⟩
noncomputable def o813 (P : Params) : Obj := ⟨.none, none, (.fields #[]), #[]⟩
noncomputable def o814 (P : Params) : Obj := ⟨(.type "tuple"), none, (.seq #[(.str "self" 1426), (.str "address" 1427), (.str "octet" 1428)] 0), #[]⟩
noncomputable def o815 (P : Params) : Obj := ⟨(.type "tuple"), none, (.seq #[] 0), #[]⟩
noncomputable def o816 (P : Params) : Obj := ⟨.none, none, (.func ⟨"filled", "Pages.filled", fnA (at2 48 7), .stmts (fnB (at2 48 7)), fnS (at2 48 7), 0, [], .none, .none, .none, .none, none, .none, .none, 0⟩), #[]⟩
noncomputable def o817 (P : Params) : Obj := ⟨(.type "code"), none, (.fields #[(.str "filled" 1423), (.str "Pages.filled" 1424), (.str "/claim/cut.py" 1425), (.int 586 0), (.int 3 0), (.int 0 0), (.int 0 0), (.int 3 0), (.ref 812), (.bool true), (.int 181 0), (.ref 813), .none, (.ref 814), (.ref 815), (.ref 816), (.int 1429 0), (.int 586 0), (.str "/claim/cut.py" 1430)]), #[]⟩
noncomputable def o818 (P : Params) : Obj := ⟨(.type "function"), none, (.func ⟨"filled", "Pages.filled", fnA (at2 48 7), .stmts (fnB (at2 48 7)), fnS (at2 48 7), 3, [], .none, .none, .none, (.str "pipeboard.pages" 1344), none, (.ref 817), .none, 0⟩), #[]⟩
noncomputable def o819 (P : Params) : Obj := ⟨(.type "tuple"), none, (.seq #[] 0), #[]⟩
noncomputable def o820 (P : Params) : Obj := ⟨.none, none, (.fields #[]), #[]⟩
noncomputable def o821 (P : Params) : Obj := ⟨(.type "tuple"), none, (.seq #[(.str "self" 1435), (.str "address" 1436)] 0), #[]⟩
noncomputable def o822 (P : Params) : Obj := ⟨(.type "tuple"), none, (.seq #[] 0), #[]⟩
noncomputable def o823 (P : Params) : Obj := ⟨.none, none, (.func ⟨"take", "Pages.take", fnA (at2 48 8), .stmts (fnB (at2 48 8)), fnS (at2 48 8), 0, [], .none, .none, .none, .none, none, .none, .none, 0⟩), #[]⟩
noncomputable def o824 (P : Params) : Obj := ⟨(.type "code"), none, (.fields #[(.str "take" 1432), (.str "Pages.take" 1433), (.str "/claim/cut.py" 1434), (.int 590 0), (.int 1 0), (.int 0 0), (.int 0 0), (.int 3 0), (.ref 819), (.bool true), (.int 181 0), (.ref 820), .none, (.ref 821), (.ref 822), (.ref 823), (.int 1437 0), (.int 590 0), (.str "/claim/cut.py" 1438)]), #[]⟩
noncomputable def o825 (P : Params) : Obj := ⟨(.type "function"), none, (.func ⟨"take", "Pages.take", fnA (at2 48 8), .stmts (fnB (at2 48 8)), fnS (at2 48 8), 3, [], .none, .none, .none, (.str "pipeboard.pages" 1344), none, (.ref 824), .none, 0⟩), #[]⟩
noncomputable def o826 (P : Params) : Obj := ⟨(.type "tuple"), none, (.seq #[] 0), #[]⟩
noncomputable def o827 (P : Params) : Obj := ⟨.none, none, (.fields #[]), #[]⟩
noncomputable def o828 (P : Params) : Obj := ⟨(.type "tuple"), none, (.seq #[(.str "self" 1443)] 0), #[]⟩
noncomputable def o829 (P : Params) : Obj := ⟨(.type "tuple"), none, (.seq #[] 0), #[]⟩
noncomputable def o830 (P : Params) : Obj := ⟨.none, none, (.func ⟨"take_clear", "Pages.take_clear", fnA (at2 48 9), .stmts (fnB (at2 48 9)), fnS (at2 48 9), 0, [], .none, .none, .none, .none, none, .none, .none, 0⟩), #[]⟩
noncomputable def o831 (P : Params) : Obj := ⟨(.type "code"), none, (.fields #[(.str "take_clear" 1440), (.str "Pages.take_clear" 1441), (.str "/claim/cut.py" 1442), (.int 601 0), (.int 1 0), (.int 0 0), (.int 0 0), (.int 3 0), (.ref 826), (.bool true), (.int 181 0), (.ref 827), .none, (.ref 828), (.ref 829), (.ref 830), (.int 1444 0), (.int 601 0), (.str "/claim/cut.py" 1445)]), #[]⟩
noncomputable def o832 (P : Params) : Obj := ⟨(.type "function"), none, (.func ⟨"take_clear", "Pages.take_clear", fnA (at2 48 9), .stmts (fnB (at2 48 9)), fnS (at2 48 9), 3, [], .none, .none, .none, (.str "pipeboard.pages" 1344), none, (.ref 831), .none, 0⟩), #[]⟩
noncomputable def o833 (P : Params) : Obj := ⟨(.type "tuple"), none, (.seq #[] 0), #[]⟩
noncomputable def o834 (P : Params) : Obj := ⟨.none, none, (.fields #[]), #[]⟩
noncomputable def o835 (P : Params) : Obj := ⟨(.type "tuple"), none, (.seq #[(.str "self" 1450), (.str "count" 1451)] 0), #[]⟩
noncomputable def o836 (P : Params) : Obj := ⟨(.type "tuple"), none, (.seq #[] 0), #[]⟩
noncomputable def o837 (P : Params) : Obj := ⟨.none, none, (.func ⟨"take_many", "Pages.take_many", fnA (at2 48 10), .stmts (fnB (at2 48 10)), fnS (at2 48 10), 0, [], .none, .none, .none, .none, none, .none, .none, 0⟩), #[]⟩
noncomputable def o838 (P : Params) : Obj := ⟨(.type "code"), none, (.fields #[(.str "take_many" 1447), (.str "Pages.take_many" 1448), (.str "/claim/cut.py" 1449), (.int 604 0), (.int 2 0), (.int 0 0), (.int 0 0), (.int 3 0), (.ref 833), (.bool true), (.int 181 0), (.ref 834), .none, (.ref 835), (.ref 836), (.ref 837), (.int 1452 0), (.int 604 0), (.str "/claim/cut.py" 1453)]), #[]⟩
noncomputable def o839 (P : Params) : Obj := ⟨(.type "function"), none, (.func ⟨"take_many", "Pages.take_many", fnA (at2 48 10), .stmts (fnB (at2 48 10)), fnS (at2 48 10), 3, [], .none, .none, .none, (.str "pipeboard.pages" 1344), none, (.ref 838), .none, 0⟩), #[]⟩
noncomputable def o840 (P : Params) : Obj := ⟨(.type "tuple"), none, (.seq #[] 0), #[]⟩
noncomputable def o841 (P : Params) : Obj := ⟨.none, none, (.fields #[]), #[]⟩
noncomputable def o842 (P : Params) : Obj := ⟨(.type "tuple"), none, (.seq #[(.str "self" 1458), (.str "address" 1459)] 0), #[]⟩
noncomputable def o843 (P : Params) : Obj := ⟨(.type "tuple"), none, (.seq #[] 0), #[]⟩
noncomputable def o844 (P : Params) : Obj := ⟨.none, none, (.func ⟨"share", "Pages.share", fnA (at2 48 11), .stmts (fnB (at2 48 11)), fnS (at2 48 11), 0, [], .none, .none, .none, .none, none, .none, .none, 0⟩), #[]⟩
noncomputable def o845 (P : Params) : Obj := ⟨(.type "code"), none, (.fields #[(.str "share" 1455), (.str "Pages.share" 1456), (.str "/claim/cut.py" 1457), (.int 607 0), (.int 2 0), (.int 0 0), (.int 0 0), (.int 3 0), (.ref 840), (.bool true), (.int 181 0), (.ref 841), .none, (.ref 842), (.ref 843), (.ref 844), (.int 1460 0), (.int 607 0), (.str "/claim/cut.py" 1461)]), #[]⟩
noncomputable def o846 (P : Params) : Obj := ⟨(.type "function"), none, (.func ⟨"share", "Pages.share", fnA (at2 48 11), .stmts (fnB (at2 48 11)), fnS (at2 48 11), 3, [], .none, .none, .none, (.str "pipeboard.pages" 1344), none, (.ref 845), .none, 0⟩), #[]⟩
noncomputable def o847 (P : Params) : Obj := ⟨(.type "tuple"), none, (.seq #[] 0), #[]⟩
noncomputable def o848 (P : Params) : Obj := ⟨.none, none, (.fields #[]), #[]⟩
noncomputable def o849 (P : Params) : Obj := ⟨(.type "tuple"), none, (.seq #[(.str "self" 1466), (.str "address" 1467)] 0), #[]⟩
noncomputable def o850 (P : Params) : Obj := ⟨(.type "tuple"), none, (.seq #[] 0), #[]⟩
noncomputable def o851 (P : Params) : Obj := ⟨.none, none, (.func ⟨"give", "Pages.give", fnA (at2 48 12), .stmts (fnB (at2 48 12)), fnS (at2 48 12), 0, [], .none, .none, .none, .none, none, .none, .none, 0⟩), #[]⟩
noncomputable def o852 (P : Params) : Obj := ⟨(.type "code"), none, (.fields #[(.str "give" 1463), (.str "Pages.give" 1464), (.str "/claim/cut.py" 1465), (.int 610 0), (.int 2 0), (.int 0 0), (.int 0 0), (.int 3 0), (.ref 847), (.bool true), (.int 181 0), (.ref 848), .none, (.ref 849), (.ref 850), (.ref 851), (.int 1468 0), (.int 610 0), (.str "/claim/cut.py" 1469)]), #[]⟩
noncomputable def o853 (P : Params) : Obj := ⟨(.type "function"), none, (.func ⟨"give", "Pages.give", fnA (at2 48 12), .stmts (fnB (at2 48 12)), fnS (at2 48 12), 3, [], .none, .none, .none, (.str "pipeboard.pages" 1344), none, (.ref 852), .none, 0⟩), #[]⟩
noncomputable def o854 (P : Params) : Obj := ⟨(.type "tuple"), none, (.seq #[] 0), #[]⟩
noncomputable def o855 (P : Params) : Obj := ⟨.none, none, (.fields #[]), #[]⟩
noncomputable def o856 (P : Params) : Obj := ⟨(.type "tuple"), none, (.seq #[(.str "self" 1474), (.str "address" 1475)] 0), #[]⟩
noncomputable def o857 (P : Params) : Obj := ⟨(.type "tuple"), none, (.seq #[] 0), #[]⟩
noncomputable def o858 (P : Params) : Obj := ⟨.none, none, (.func ⟨"own", "Pages.own", fnA (at2 48 13), .stmts (fnB (at2 48 13)), fnS (at2 48 13), 0, [], .none, .none, .none, .none, none, .none, .none, 0⟩), #[]⟩
noncomputable def o859 (P : Params) : Obj := ⟨(.type "code"), none, (.fields #[(.str "own" 1471), (.str "Pages.own" 1472), (.str "/claim/cut.py" 1473), (.int 620 0), (.int 2 0), (.int 0 0), (.int 0 0), (.int 3 0), (.ref 854), (.bool true), (.int 181 0), (.ref 855), .none, (.ref 856), (.ref 857), (.ref 858), (.int 1476 0), (.int 620 0), (.str "/claim/cut.py" 1477)]), #[]⟩
noncomputable def o860 (P : Params) : Obj := ⟨(.type "function"), none, (.func ⟨"own", "Pages.own", fnA (at2 48 13), .stmts (fnB (at2 48 13)), fnS (at2 48 13), 3, [], .none, .none, .none, (.str "pipeboard.pages" 1344), none, (.ref 859), .none, 0⟩), #[]⟩
noncomputable def o861 (P : Params) : Obj := ⟨(.type "tuple"), none, (.seq #[] 0), #[]⟩
noncomputable def o862 (P : Params) : Obj := ⟨.none, none, (.fields #[]), #[]⟩
noncomputable def o863 (P : Params) : Obj := ⟨(.type "tuple"), none, (.seq #[(.str "self" 1482)] 0), #[]⟩
noncomputable def o864 (P : Params) : Obj := ⟨(.type "tuple"), none, (.seq #[] 0), #[]⟩
noncomputable def o865 (P : Params) : Obj := ⟨.none, none, (.func ⟨"all_held", "Pages.all_held", fnA (at2 48 14), .stmts (fnB (at2 48 14)), fnS (at2 48 14), 0, [], .none, .none, .none, .none, none, .none, .none, 0⟩), #[]⟩
noncomputable def o866 (P : Params) : Obj := ⟨(.type "code"), none, (.fields #[(.str "all_held" 1479), (.str "Pages.all_held" 1480), (.str "/claim/cut.py" 1481), (.int 623 0), (.int 1 0), (.int 0 0), (.int 0 0), (.int 3 0), (.ref 861), (.bool true), (.int 181 0), (.ref 862), .none, (.ref 863), (.ref 864), (.ref 865), (.int 1483 0), (.int 623 0), (.str "/claim/cut.py" 1484)]), #[]⟩
noncomputable def o867 (P : Params) : Obj := ⟨(.type "function"), none, (.func ⟨"all_held", "Pages.all_held", fnA (at2 48 14), .stmts (fnB (at2 48 14)), fnS (at2 48 14), 3, [], .none, .none, .none, (.str "pipeboard.pages" 1344), none, (.ref 866), .none, 0⟩), #[]⟩
noncomputable def o868 (P : Params) : Obj := ⟨(.type "tuple"), none, (.seq #[(.str "begin" 1486), (.str "count" 1487), (.str "fill" 1488), (.str "given" 1489), (.str "held" 1490), (.str "memory" 1491), (.str "size" 1492), (.str "untouched" 1493)] 0), #[]⟩
noncomputable def o869 (P : Params) : Obj := ⟨(.type "dict"), none, (.dict #[⟨PyData.keyHash P "__module__", (.str "__module__" 1357), (.str "pipeboard.pages" 1344)⟩, ⟨PyData.keyHash P "__firstlineno__", (.str "__firstlineno__" 1361), (.int 549 1360)⟩, ⟨PyData.keyHash P "__init__", (.str "__init__" 1373), (.ref 769)⟩, ⟨PyData.keyHash P "address_of", (.str "address_of" 1381), (.ref 776)⟩, ⟨PyData.keyHash P "is_page", (.str "is_page" 1391), (.ref 783)⟩, ⟨PyData.keyHash P "holders", (.str "holders" 1399), (.ref 790)⟩, ⟨PyData.keyHash P "need_held", (.str "need_held" 1407), (.ref 797)⟩, ⟨PyData.keyHash P "free_count", (.str "free_count" 1414), (.ref 804)⟩, ⟨PyData.keyHash P "need_free", (.str "need_free" 1422), (.ref 811)⟩, ⟨PyData.keyHash P "filled", (.str "filled" 1431), (.ref 818)⟩, ⟨PyData.keyHash P "take", (.str "take" 1439), (.ref 825)⟩, ⟨PyData.keyHash P "take_clear", (.str "take_clear" 1446), (.ref 832)⟩, ⟨PyData.keyHash P "take_many", (.str "take_many" 1454), (.ref 839)⟩, ⟨PyData.keyHash P "share", (.str "share" 1462), (.ref 846)⟩, ⟨PyData.keyHash P "give", (.str "give" 1470), (.ref 853)⟩, ⟨PyData.keyHash P "own", (.str "own" 1478), (.ref 860)⟩, ⟨PyData.keyHash P "all_held", (.str "all_held" 1485), (.ref 867)⟩, ⟨PyData.keyHash P "__static_attributes__", (.str "__static_attributes__" 1494), (.ref 868)⟩, ⟨PyData.keyHash P "__dict__", (.str "__dict__" 1496), (.ref 871)⟩, ⟨PyData.keyHash P "__weakref__", (.str "__weakref__" 1498), (.ref 872)⟩, ⟨PyData.keyHash P "__doc__", (.str "__doc__" 1499), .none⟩] 4), #[]⟩
noncomputable def o870 (P : Params) : Obj := ⟨(.type "type"), none, (.cls ⟨"Pages", [(.type "object")], [(.ref 870), (.type "object")], 869, "Pages", true, [], [], false, none, false⟩), #[none, none, (some (.str "Pages" 1350)), (some (.str "Pages" 1358)), (some (.builtin "object.__new__")), (some (.bool true))]⟩
noncomputable def o871 (P : Params) : Obj := ⟨(.type "getset_descriptor"), none, (.fields #[(.str "__dict__" 1495), (.ref 870), (.builtin "function.__dict__"), (.builtin "function.__dict__#set")]), #[]⟩
noncomputable def o872 (P : Params) : Obj := ⟨(.type "getset_descriptor"), none, (.fields #[(.str "__weakref__" 1497), (.ref 870), (.builtin "ExceptionGroup.__weakref__"), .none]), #[]⟩
noncomputable def o873 (P : Params) : Obj := ⟨(.type "super"), none, (.fields #[(.ref 870), (.ref 870), (.ref 870)]), #[]⟩
noncomputable def o874 (P : Params) : Obj := ⟨(.type "builtin_function_or_method"), none, (.fields #[(.builtin "object.__init_subclass__"), (.ref 870)]), #[]⟩
noncomputable def o875 (P : Params) : Obj := ⟨(.type "tuple"), none, (.seq #[] 0), #[]⟩
noncomputable def o876 (P : Params) : Obj := ⟨.none, none, (.fields #[]), #[]⟩
noncomputable def o877 (P : Params) : Obj := ⟨(.type "tuple"), none, (.seq #[(.str "world" 1507), (.str "page" 1508), (.str "slot" 1509), (.str "kind" 1510), (.str "is_kept" 1511), (.str "walker" 1512)] 0), #[]⟩
noncomputable def o878 (P : Params) : Obj := ⟨(.type "tuple"), none, (.seq #[] 0), #[]⟩
noncomputable def o879 (P : Params) : Obj := ⟨.none, none, (.func ⟨"_law_place", "_law_place", fnA (at1 50), .stmts (fnB (at1 50)), fnS (at1 50), 0, [], .none, .none, .none, .none, none, .none, .none, 0⟩), #[]⟩
noncomputable def o880 (P : Params) : Obj := ⟨(.type "code"), none, (.fields #[(.str "_law_place" 1504), (.str "_law_place" 1505), (.str "/claim/cut.py" 1506), (.int 626 0), (.int 5 0), (.int 0 0), (.int 0 0), (.int 3 0), (.ref 875), (.bool true), (.int 181 0), (.ref 876), .none, (.ref 877), (.ref 878), (.ref 879), (.int 1513 0), (.int 626 0), (.str "/claim/cut.py" 1514)]), #[]⟩
noncomputable def o881 (P : Params) : Obj := ⟨(.type "function"), none, (.func ⟨"_law_place", "_law_place", fnA (at1 50), .stmts (fnB (at1 50)), fnS (at1 50), 3, [], .none, .none, .none, (.str "law_pf0221_01" 1502), none, (.ref 880), .none, 0⟩), #[]⟩
noncomputable def o882 (P : Params) : Obj := ⟨(.type "tuple"), none, (.seq #[] 0), #[]⟩
noncomputable def o883 (P : Params) : Obj := ⟨.none, none, (.fields #[]), #[]⟩
noncomputable def o884 (P : Params) : Obj := ⟨(.type "tuple"), none, (.seq #[(.str "world" 1519), (.str "page" 1520), (.str "slot" 1521), (.str "value" 1522), (.str "is_kept" 1523)] 0), #[]⟩
noncomputable def o885 (P : Params) : Obj := ⟨(.type "tuple"), none, (.seq #[] 0), #[]⟩
noncomputable def o886 (P : Params) : Obj := ⟨.none, none, (.func ⟨"_law_store", "_law_store", fnA (at1 51), .stmts (fnB (at1 51)), fnS (at1 51), 0, [], .none, .none, .none, .none, none, .none, .none, 0⟩), #[]⟩
noncomputable def o887 (P : Params) : Obj := ⟨(.type "code"), none, (.fields #[(.str "_law_store" 1516), (.str "_law_store" 1517), (.str "/claim/cut.py" 1518), (.int 629 0), (.int 5 0), (.int 0 0), (.int 0 0), (.int 3 0), (.ref 882), (.bool true), (.int 181 0), (.ref 883), .none, (.ref 884), (.ref 885), (.ref 886), (.int 1524 0), (.int 629 0), (.str "/claim/cut.py" 1525)]), #[]⟩
noncomputable def o888 (P : Params) : Obj := ⟨(.type "function"), none, (.func ⟨"_law_store", "_law_store", fnA (at1 51), .stmts (fnB (at1 51)), fnS (at1 51), 3, [], .none, .none, .none, (.str "law_pf0221_01" 1502), none, (.ref 887), .none, 0⟩), #[]⟩
noncomputable def o889 (P : Params) : Obj := ⟨(.type "tuple"), none, (.seq #[] 0), #[]⟩
noncomputable def o890 (P : Params) : Obj := ⟨.none, none, (.fields #[]), #[]⟩
noncomputable def o891 (P : Params) : Obj := ⟨(.type "tuple"), none, (.seq #[(.str "world" 1530), (.str "page" 1531), (.str "frame" 1532), (.str "old" 1533), (.str "is_right" 1534)] 0), #[]⟩
noncomputable def o892 (P : Params) : Obj := ⟨(.type "tuple"), none, (.seq #[] 0), #[]⟩
noncomputable def o893 (P : Params) : Obj := ⟨.none, none, (.func ⟨"_law_stood", "_law_stood", fnA (at1 52), .stmts (fnB (at1 52)), fnS (at1 52), 0, [], .none, .none, .none, .none, none, .none, .none, 0⟩), #[]⟩
noncomputable def o894 (P : Params) : Obj := ⟨(.type "code"), none, (.fields #[(.str "_law_stood" 1527), (.str "_law_stood" 1528), (.str "/claim/cut.py" 1529), (.int 632 0), (.int 3 0), (.int 0 0), (.int 0 0), (.int 3 0), (.ref 889), (.bool true), (.int 181 0), (.ref 890), .none, (.ref 891), (.ref 892), (.ref 893), (.int 1535 0), (.int 632 0), (.str "/claim/cut.py" 1536)]), #[]⟩
noncomputable def o895 (P : Params) : Obj := ⟨(.type "function"), none, (.func ⟨"_law_stood", "_law_stood", fnA (at1 52), .stmts (fnB (at1 52)), fnS (at1 52), 3, [], .none, .none, .none, (.str "law_pf0221_01" 1502), none, (.ref 894), .none, 0⟩), #[]⟩
noncomputable def o896 (P : Params) : Obj := ⟨(.type "tuple"), none, (.seq #[] 0), #[]⟩
noncomputable def o897 (P : Params) : Obj := ⟨.none, none, (.fields #[]), #[]⟩
noncomputable def o898 (P : Params) : Obj := ⟨(.type "tuple"), none, (.seq #[(.str "world" 1541), (.str "n" 1542), (.str "way" 1543), (.str "page" 1544), (.str "other" 1545), (.str "is_kept" 1546), (.str "rest" 1547), (.str "one" 1548), (.str "far" 1549), (.str "slot" 1550), (.str "value" 1551)] 0), #[]⟩
noncomputable def o899 (P : Params) : Obj := ⟨(.type "tuple"), none, (.seq #[] 0), #[]⟩
noncomputable def o900 (P : Params) : Obj := ⟨.none, none, (.func ⟨"_law_deed_right", "_law_deed_right", fnA (at1 53), .stmts (fnB (at1 53)), fnS (at1 53), 0, [], .none, .none, .none, .none, none, .none, .none, 0⟩), #[]⟩
noncomputable def o901 (P : Params) : Obj := ⟨(.type "code"), none, (.fields #[(.str "_law_deed_right" 1538), (.str "_law_deed_right" 1539), (.str "/claim/cut.py" 1540), (.int 638 0), (.int 2 0), (.int 0 0), (.int 0 0), (.int 3 0), (.ref 896), (.bool true), (.int 181 0), (.ref 897), .none, (.ref 898), (.ref 899), (.ref 900), (.int 1552 0), (.int 638 0), (.str "/claim/cut.py" 1553)]), #[]⟩
noncomputable def o902 (P : Params) : Obj := ⟨(.type "function"), none, (.func ⟨"_law_deed_right", "_law_deed_right", fnA (at1 53), .stmts (fnB (at1 53)), fnS (at1 53), 3, [], .none, .none, .none, (.str "law_pf0221_01" 1502), none, (.ref 901), .none, 0⟩), #[]⟩
noncomputable def o903 (P : Params) : Obj := ⟨(.type "tuple"), none, (.seq #[] 0), #[]⟩
noncomputable def o904 (P : Params) : Obj := ⟨.none, none, (.fields #[]), #[]⟩
noncomputable def o905 (P : Params) : Obj := ⟨.none, none, (.func ⟨"_law_page_right", "_law_page_right", fnA (at1 54), .stmts (fnB (at1 54)), fnS (at1 54), 0, [], .none, .none, .none, .none, none, .none, .none, 0⟩), #[]⟩
noncomputable def o906 (P : Params) : Obj := ⟨(.type "code"), none, (.fields #[(.str "_law_page_right" 1555), (.str "_law_page_right" 1556), (.str "/claim/cut.py" 1557), (.int 652 0), (.int 3 0), (.int 0 0), (.int 0 0), (.int 3 0), (.ref 903), (.bool true), (.int 181 0), (.ref 904), .none, .none, .none, (.ref 905), (.int 1558 0), (.int 652 0), (.str "/claim/cut.py" 1559)]), #[]⟩
noncomputable def o907 (P : Params) : Obj := ⟨(.type "function"), none, (.func ⟨"_law_page_right", "_law_page_right", fnA (at1 54), .stmts (fnB (at1 54)), fnS (at1 54), 3, [], .none, .none, .none, (.str "law_pf0221_01" 1502), none, (.ref 906), .none, 0⟩), #[]⟩
noncomputable def o908 (P : Params) : Obj := ⟨(.type "tuple"), none, (.seq #[] 0), #[]⟩
noncomputable def o909 (P : Params) : Obj := ⟨.none, none, (.fields #[]), #[]⟩
noncomputable def o910 (P : Params) : Obj := ⟨.none, none, (.func ⟨"law", "law", fnA (at1 55), .stmts (fnB (at1 55)), fnS (at1 55), 0, [], .none, .none, .none, .none, none, .none, .none, 0⟩), #[]⟩
noncomputable def o911 (P : Params) : Obj := ⟨(.type "code"), none, (.fields #[(.str "law" 1561), (.str "law" 1562), (.str "/claim/cut.py" 1563), (.int 656 0), (.int 1 0), (.int 0 0), (.int 0 0), (.int 3 0), (.ref 908), (.bool true), (.int 181 0), (.ref 909), .none, .none, .none, (.ref 910), (.int 1564 0), (.int 656 0), (.str "/claim/cut.py" 1565)]), #[]⟩
noncomputable def o912 (P : Params) : Obj := ⟨(.type "function"), none, (.func ⟨"law", "law", fnA (at1 55), .stmts (fnB (at1 55)), fnS (at1 55), 3, [], .none, .none, .none, (.str "law_pf0221_01" 1502), none, (.ref 911), .none, 0⟩), #[]⟩
noncomputable def odds : List Obj → List Obj | [] => [] | [x] => [x] | x :: _ :: r => x :: odds r
noncomputable def evens : List Obj → List Obj | [] => [] | [_] => [] | _ :: y :: r => y :: evens r
noncomputable def ofL : Nat → List Obj → BT | 0, _ => .nil | _ + 1, [] => .nil | n + 1, x :: r => .node x (ofL n (odds r)) (ofL n (evens r))
noncomputable def l0 (P : Params) : List Obj := [PySem.W.boot_o_0 P, PySem.W.boot_o_1 P, PySem.W.boot_o_2 P, PySem.W.boot_o_3 P, PySem.W.boot_o_4 P, PySem.W.boot_o_5 P, PySem.W.boot_o_6 P, PySem.W.boot_o_7 P, PySem.W.boot_o_8 P, PySem.W.boot_o_9 P, PySem.W.boot_o_10 P, o11 P, o12 P, o13 P, o14 P]
noncomputable def l1 (P : Params) : List Obj := [PySem.W.boot_o_0 P, PySem.W.boot_o_1 P, PySem.W.boot_o_2 P, PySem.W.boot_o_3 P, PySem.W.boot_o_4 P, PySem.W.boot_o_5 P, PySem.W.boot_o_6 P, PySem.W.boot_o_7 P, PySem.W.boot_o_8 P, PySem.W.boot_o_9 P, PySem.W.boot_o_10 P, o11 P, o12 P, o13 P, o14 P]
noncomputable def l2 (P : Params) : List Obj := [PySem.W.boot_o_0 P, PySem.W.boot_o_1 P, PySem.W.boot_o_2 P, o3v2 P, PySem.W.boot_o_4 P, PySem.W.boot_o_5 P, PySem.W.boot_o_6 P, PySem.W.boot_o_7 P, PySem.W.boot_o_8 P, PySem.W.boot_o_9 P, PySem.W.boot_o_10 P, o11 P, o12v2 P, o13 P, o14 P, o15 P, o16 P, o17 P, o18 P, o19 P, o20 P, o21 P, o22 P, o23 P, o24 P, o25 P, o26 P, o27 P, o28 P, o29 P, o30 P, o31 P, o32 P, o33 P, o34 P, o35 P, o36 P, o37 P, o38 P, o39 P, o40 P, o41 P, o42 P, o43 P, o44 P, o45 P, o46 P, o47 P, o48 P, o49 P, o50 P, o51 P, o52 P, o53 P, o54 P, o55 P, o56 P, o57 P, o58 P, o59 P, o60 P, o61 P, o62 P, o63 P, o64 P, o65 P, o66 P, o67 P, o68 P, o69 P, o70 P, o71 P, o72 P, o73 P, o74 P, o75 P, o76 P, o77 P, o78 P, o79 P, o80 P, o81 P, o82 P, o83 P, o84 P, o85 P]
noncomputable def l3 (P : Params) : List Obj := [PySem.W.boot_o_0 P, PySem.W.boot_o_1 P, PySem.W.boot_o_2 P, o3v3 P, PySem.W.boot_o_4 P, PySem.W.boot_o_5 P, PySem.W.boot_o_6 P, PySem.W.boot_o_7 P, PySem.W.boot_o_8 P, PySem.W.boot_o_9 P, PySem.W.boot_o_10 P, o11 P, o12v3 P, o13 P, o14 P, o15 P, o16 P, o17 P, o18 P, o19 P, o20 P, o21 P, o22 P, o23 P, o24 P, o25 P, o26 P, o27 P, o28 P, o29 P, o30 P, o31 P, o32 P, o33 P, o34 P, o35 P, o36 P, o37 P, o38 P, o39v2 P, o40 P, o41 P, o42 P, o43 P, o44 P, o45 P, o46 P, o47 P, o48 P, o49 P, o50 P, o51 P, o52 P, o53 P, o54 P, o55 P, o56 P, o57 P, o58 P, o59 P, o60 P, o61 P, o62 P, o63 P, o64 P, o65 P, o66 P, o67 P, o68 P, o69 P, o70 P, o71 P, o72 P, o73 P, o74 P, o75 P, o76 P, o77 P, o78 P, o79 P, o80 P, o81 P, o82 P, o83 P, o84 P, o85 P, o86 P, o87 P, o88 P, o89 P, o90 P, o91 P, o92 P, o93 P, o94 P, o95 P, o96 P, o97 P, o98 P, o99 P, o100 P, o101 P, o102 P, o103 P, o104 P, o105 P]
noncomputable def l4 (P : Params) : List Obj := [PySem.W.boot_o_0 P, PySem.W.boot_o_1 P, PySem.W.boot_o_2 P, o3v4 P, PySem.W.boot_o_4 P, PySem.W.boot_o_5 P, PySem.W.boot_o_6 P, PySem.W.boot_o_7 P, PySem.W.boot_o_8 P, PySem.W.boot_o_9 P, PySem.W.boot_o_10 P, o11 P, o12v3 P, o13 P, o14 P, o15 P, o16 P, o17 P, o18 P, o19 P, o20 P, o21 P, o22 P, o23 P, o24 P, o25 P, o26 P, o27 P, o28 P, o29 P, o30 P, o31 P, o32 P, o33 P, o34 P, o35 P, o36 P, o37 P, o38 P, o39v2 P, o40 P, o41 P, o42 P, o43 P, o44 P, o45 P, o46 P, o47 P, o48 P, o49 P, o50 P, o51 P, o52 P, o53 P, o54 P, o55 P, o56 P, o57 P, o58 P, o59 P, o60 P, o61 P, o62 P, o63 P, o64 P, o65 P, o66 P, o67 P, o68 P, o69 P, o70 P, o71 P, o72 P, o73 P, o74 P, o75 P, o76 P, o77 P, o78 P, o79 P, o80 P, o81 P, o82 P, o83 P, o84 P, o85 P, o86 P, o87 P, o88 P, o89 P, o90 P, o91 P, o92 P, o93 P, o94 P, o95 P, o96 P, o97 P, o98 P, o99 P, o100 P, o101 P, o102 P, o103 P, o104 P, o105 P, o106 P, o107 P]
noncomputable def l5 (P : Params) : List Obj := [PySem.W.boot_o_0 P, PySem.W.boot_o_1 P, PySem.W.boot_o_2 P, o3v5 P, PySem.W.boot_o_4 P, PySem.W.boot_o_5 P, PySem.W.boot_o_6 P, PySem.W.boot_o_7 P, PySem.W.boot_o_8 P, PySem.W.boot_o_9 P, PySem.W.boot_o_10 P, o11 P, o12v4 P, o13 P, o14 P, o15 P, o16 P, o17 P, o18 P, o19 P, o20 P, o21 P, o22 P, o23 P, o24 P, o25 P, o26 P, o27 P, o28 P, o29 P, o30 P, o31 P, o32 P, o33 P, o34 P, o35 P, o36 P, o37 P, o38 P, o39v2 P, o40 P, o41 P, o42 P, o43 P, o44 P, o45 P, o46 P, o47 P, o48 P, o49 P, o50 P, o51 P, o52 P, o53 P, o54 P, o55 P, o56 P, o57 P, o58 P, o59 P, o60 P, o61 P, o62 P, o63 P, o64 P, o65 P, o66 P, o67 P, o68 P, o69 P, o70 P, o71 P, o72 P, o73 P, o74 P, o75 P, o76 P, o77 P, o78 P, o79 P, o80 P, o81 P, o82 P, o83 P, o84 P, o85 P, o86 P, o87 P, o88 P, o89 P, o90 P, o91 P, o92 P, o93 P, o94 P, o95 P, o96 P, o97 P, o98 P, o99 P, o100 P, o101 P, o102 P, o103 P, o104 P, o105 P, o106 P, o107 P, o108 P, o109 P, o110 P, o111 P, o112 P, o113 P, o114 P, o115 P, o116 P, o117 P, o118 P, o119 P, o120 P, o121 P, o122 P, o123 P, o124 P, o125 P, o126 P, o127 P, o128 P, o129 P, o130 P, o131 P, o132 P, o133 P, o134 P, o135 P, o136 P, o137 P, o138 P, o139 P, o140 P, o141 P, o142 P, o143 P, o144 P, o145 P, o146 P, o147 P, o148 P, o149 P, o150 P, o151 P, o152 P, o153 P, o154 P, o155 P, o156 P, o157 P, o158 P, o159 P, o160 P, o161 P, o162 P, o163 P, o164 P, o165 P, o166 P, o167 P, o168 P, o169 P, o170 P, o171 P, o172 P, o173 P, o174 P, o175 P, o176 P, o177 P, o178 P, o179 P, o180 P, o181 P, o182 P, o183 P, o184 P, o185 P, o186 P, o187 P, o188 P, o189 P, o190 P, o191 P, o192 P, o193 P, o194 P, o195 P, o196 P, o197 P, o198 P, o199 P, o200 P, o201 P, o202 P, o203 P, o204 P, o205 P, o206 P, o207 P, o208 P, o209 P, o210 P, o211 P, o212 P]
noncomputable def l6 (P : Params) : List Obj := [PySem.W.boot_o_0 P, PySem.W.boot_o_1 P, PySem.W.boot_o_2 P, o3v6 P, PySem.W.boot_o_4 P, PySem.W.boot_o_5 P, PySem.W.boot_o_6 P, PySem.W.boot_o_7 P, PySem.W.boot_o_8 P, PySem.W.boot_o_9 P, PySem.W.boot_o_10 P, o11 P, o12v5 P, o13 P, o14 P, o15 P, o16 P, o17 P, o18 P, o19 P, o20 P, o21 P, o22 P, o23 P, o24 P, o25 P, o26 P, o27 P, o28 P, o29 P, o30 P, o31 P, o32 P, o33 P, o34 P, o35 P, o36 P, o37 P, o38 P, o39v2 P, o40 P, o41 P, o42 P, o43 P, o44 P, o45 P, o46 P, o47 P, o48 P, o49 P, o50 P, o51 P, o52 P, o53 P, o54 P, o55 P, o56 P, o57 P, o58 P, o59 P, o60 P, o61 P, o62 P, o63 P, o64 P, o65 P, o66 P, o67 P, o68 P, o69 P, o70 P, o71 P, o72 P, o73 P, o74 P, o75 P, o76 P, o77 P, o78 P, o79 P, o80 P, o81 P, o82 P, o83 P, o84 P, o85 P, o86 P, o87 P, o88 P, o89 P, o90 P, o91 P, o92 P, o93 P, o94 P, o95 P, o96 P, o97 P, o98 P, o99 P, o100 P, o101 P, o102 P, o103 P, o104 P, o105 P, o106 P, o107 P, o108 P, o109 P, o110 P, o111 P, o112 P, o113 P, o114 P, o115 P, o116 P, o117 P, o118 P, o119 P, o120 P, o121 P, o122 P, o123 P, o124 P, o125 P, o126 P, o127 P, o128 P, o129 P, o130 P, o131 P, o132 P, o133 P, o134 P, o135 P, o136 P, o137 P, o138 P, o139 P, o140 P, o141 P, o142 P, o143 P, o144 P, o145 P, o146 P, o147 P, o148 P, o149 P, o150 P, o151 P, o152 P, o153 P, o154 P, o155 P, o156 P, o157 P, o158 P, o159 P, o160 P, o161 P, o162 P, o163 P, o164 P, o165 P, o166 P, o167 P, o168 P, o169 P, o170 P, o171 P, o172 P, o173 P, o174 P, o175 P, o176 P, o177 P, o178 P, o179 P, o180 P, o181 P, o182 P, o183 P, o184 P, o185 P, o186 P, o187 P, o188 P, o189 P, o190 P, o191 P, o192 P, o193 P, o194 P, o195 P, o196 P, o197 P, o198 P, o199 P, o200 P, o201 P, o202 P, o203 P, o204 P, o205 P, o206 P, o207 P, o208 P, o209 P, o210 P, o211 P, o212 P, o213 P, o214 P, o215 P, o216 P, o217 P, o218 P, o219 P, o220 P, o221 P, o222 P, o223 P, o224 P, o225 P, o226 P, o227 P, o228 P, o229 P, o230 P, o231 P, o232 P, o233 P, o234 P, o235 P, o236 P, o237 P, o238 P, o239 P, o240 P, o241 P, o242 P, o243 P, o244 P, o245 P, o246 P, o247 P, o248 P, o249 P, o250 P, o251 P, o252 P, o253 P, o254 P, o255 P, o256 P, o257 P, o258 P, o259 P, o260 P, o261 P, o262 P, o263 P, o264 P, o265 P, o266 P, o267 P, o268 P, o269 P, o270 P, o271 P, o272 P, o273 P, o274 P, o275 P, o276 P, o277 P, o278 P, o279 P, o280 P, o281 P, o282 P, o283 P, o284 P, o285 P, o286 P, o287 P, o288 P, o289 P, o290 P, o291 P, o292 P, o293 P, o294 P, o295 P, o296 P, o297 P, o298 P, o299 P, o300 P, o301 P, o302 P, o303 P, o304 P, o305 P, o306 P]
noncomputable def l7 (P : Params) : List Obj := [PySem.W.boot_o_0 P, PySem.W.boot_o_1 P, PySem.W.boot_o_2 P, o3v7 P, PySem.W.boot_o_4 P, PySem.W.boot_o_5 P, PySem.W.boot_o_6 P, PySem.W.boot_o_7 P, PySem.W.boot_o_8 P, PySem.W.boot_o_9 P, PySem.W.boot_o_10 P, o11 P, o12v6 P, o13 P, o14 P, o15 P, o16 P, o17 P, o18 P, o19 P, o20 P, o21 P, o22 P, o23 P, o24 P, o25 P, o26 P, o27 P, o28 P, o29 P, o30 P, o31 P, o32 P, o33 P, o34 P, o35 P, o36 P, o37 P, o38 P, o39v2 P, o40 P, o41 P, o42 P, o43 P, o44 P, o45 P, o46 P, o47 P, o48 P, o49 P, o50 P, o51 P, o52 P, o53 P, o54 P, o55 P, o56 P, o57 P, o58 P, o59 P, o60 P, o61 P, o62 P, o63 P, o64 P, o65 P, o66 P, o67 P, o68 P, o69 P, o70 P, o71 P, o72 P, o73 P, o74 P, o75 P, o76 P, o77 P, o78 P, o79 P, o80 P, o81 P, o82 P, o83 P, o84 P, o85 P, o86 P, o87 P, o88 P, o89 P, o90 P, o91 P, o92 P, o93 P, o94 P, o95 P, o96 P, o97 P, o98 P, o99 P, o100 P, o101 P, o102 P, o103 P, o104 P, o105 P, o106 P, o107 P, o108 P, o109 P, o110 P, o111 P, o112 P, o113 P, o114 P, o115 P, o116 P, o117 P, o118 P, o119 P, o120 P, o121 P, o122 P, o123 P, o124 P, o125 P, o126 P, o127 P, o128 P, o129 P, o130 P, o131 P, o132 P, o133 P, o134 P, o135 P, o136 P, o137 P, o138 P, o139 P, o140 P, o141 P, o142 P, o143 P, o144 P, o145 P, o146 P, o147 P, o148 P, o149 P, o150 P, o151 P, o152 P, o153 P, o154 P, o155 P, o156 P, o157 P, o158 P, o159 P, o160 P, o161 P, o162 P, o163 P, o164 P, o165 P, o166 P, o167 P, o168 P, o169 P, o170 P, o171 P, o172 P, o173 P, o174 P, o175 P, o176 P, o177 P, o178 P, o179 P, o180 P, o181 P, o182 P, o183 P, o184 P, o185 P, o186 P, o187 P, o188 P, o189 P, o190 P, o191 P, o192 P, o193 P, o194 P, o195 P, o196 P, o197 P, o198 P, o199 P, o200 P, o201 P, o202 P, o203 P, o204 P, o205 P, o206 P, o207 P, o208 P, o209 P, o210 P, o211 P, o212 P, o213 P, o214 P, o215 P, o216 P, o217 P, o218 P, o219 P, o220 P, o221 P, o222 P, o223 P, o224 P, o225 P, o226 P, o227 P, o228 P, o229 P, o230 P, o231 P, o232 P, o233 P, o234 P, o235 P, o236 P, o237 P, o238 P, o239 P, o240 P, o241 P, o242 P, o243 P, o244 P, o245 P, o246 P, o247 P, o248 P, o249 P, o250 P, o251 P, o252 P, o253 P, o254 P, o255 P, o256 P, o257 P, o258 P, o259 P, o260 P, o261 P, o262 P, o263 P, o264 P, o265 P, o266 P, o267 P, o268 P, o269 P, o270 P, o271 P, o272 P, o273 P, o274 P, o275 P, o276 P, o277 P, o278 P, o279 P, o280 P, o281 P, o282 P, o283 P, o284 P, o285 P, o286 P, o287 P, o288 P, o289 P, o290 P, o291 P, o292 P, o293 P, o294 P, o295 P, o296 P, o297 P, o298 P, o299 P, o300 P, o301 P, o302 P, o303 P, o304 P, o305 P, o306 P, o307 P, o308 P, o309 P, o310 P, o311 P, o312 P, o313 P, o314 P, o315 P, o316 P, o317 P, o318 P, o319 P, o320 P, o321 P, o322 P, o323 P, o324 P, o325 P, o326 P, o327 P, o328 P, o329 P, o330 P, o331 P, o332 P, o333 P, o334 P, o335 P, o336 P, o337 P, o338 P, o339 P, o340 P, o341 P, o342 P, o343 P, o344 P, o345 P, o346 P, o347 P, o348 P, o349 P, o350 P, o351 P, o352 P, o353 P, o354 P, o355 P, o356 P, o357 P, o358 P, o359 P, o360 P, o361 P, o362 P, o363 P, o364 P, o365 P, o366 P, o367 P, o368 P, o369 P, o370 P, o371 P, o372 P, o373 P, o374 P, o375 P, o376 P, o377 P, o378 P, o379 P, o380 P, o381 P, o382 P, o383 P, o384 P, o385 P, o386 P, o387 P, o388 P, o389 P, o390 P, o391 P, o392 P, o393 P, o394 P, o395 P, o396 P, o397 P, o398 P, o399 P, o400 P, o401 P, o402 P, o403 P, o404 P, o405 P, o406 P, o407 P, o408 P, o409 P, o410 P, o411 P, o412 P, o413 P, o414 P, o415 P, o416 P, o417 P, o418 P, o419 P, o420 P, o421 P, o422 P, o423 P, o424 P, o425 P, o426 P, o427 P, o428 P, o429 P, o430 P, o431 P, o432 P, o433 P, o434 P, o435 P, o436 P, o437 P, o438 P, o439 P, o440 P, o441 P, o442 P, o443 P, o444 P, o445 P, o446 P, o447 P, o448 P, o449 P, o450 P, o451 P, o452 P, o453 P, o454 P, o455 P, o456 P, o457 P, o458 P, o459 P, o460 P, o461 P, o462 P, o463 P, o464 P, o465 P, o466 P]
noncomputable def l8 (P : Params) : List Obj := [PySem.W.boot_o_0 P, PySem.W.boot_o_1 P, PySem.W.boot_o_2 P, o3v8 P, PySem.W.boot_o_4 P, PySem.W.boot_o_5 P, PySem.W.boot_o_6 P, PySem.W.boot_o_7 P, PySem.W.boot_o_8 P, PySem.W.boot_o_9 P, PySem.W.boot_o_10 P, o11 P, o12v7 P, o13 P, o14 P, o15 P, o16 P, o17 P, o18 P, o19 P, o20 P, o21 P, o22 P, o23 P, o24 P, o25 P, o26 P, o27 P, o28 P, o29 P, o30 P, o31 P, o32 P, o33 P, o34 P, o35 P, o36 P, o37 P, o38 P, o39v2 P, o40 P, o41 P, o42 P, o43 P, o44 P, o45 P, o46 P, o47 P, o48 P, o49 P, o50 P, o51 P, o52 P, o53 P, o54 P, o55 P, o56 P, o57 P, o58 P, o59 P, o60 P, o61 P, o62 P, o63 P, o64 P, o65 P, o66 P, o67 P, o68 P, o69 P, o70 P, o71 P, o72 P, o73 P, o74 P, o75 P, o76 P, o77 P, o78 P, o79 P, o80 P, o81 P, o82 P, o83 P, o84 P, o85 P, o86 P, o87 P, o88 P, o89 P, o90 P, o91 P, o92 P, o93 P, o94 P, o95 P, o96 P, o97 P, o98 P, o99 P, o100 P, o101 P, o102 P, o103 P, o104 P, o105 P, o106 P, o107 P, o108 P, o109 P, o110 P, o111 P, o112 P, o113 P, o114 P, o115 P, o116 P, o117 P, o118 P, o119 P, o120 P, o121 P, o122 P, o123 P, o124 P, o125 P, o126 P, o127 P, o128 P, o129 P, o130 P, o131 P, o132 P, o133 P, o134 P, o135 P, o136 P, o137 P, o138 P, o139 P, o140 P, o141 P, o142 P, o143 P, o144 P, o145 P, o146 P, o147 P, o148 P, o149 P, o150 P, o151 P, o152 P, o153 P, o154 P, o155 P, o156 P, o157 P, o158 P, o159 P, o160 P, o161 P, o162 P, o163 P, o164 P, o165 P, o166 P, o167 P, o168 P, o169 P, o170 P, o171 P, o172 P, o173 P, o174 P, o175 P, o176 P, o177 P, o178 P, o179 P, o180 P, o181 P, o182 P, o183 P, o184 P, o185 P, o186 P, o187 P, o188 P, o189 P, o190 P, o191 P, o192 P, o193 P, o194 P, o195 P, o196 P, o197 P, o198 P, o199 P, o200 P, o201 P, o202 P, o203 P, o204 P, o205 P, o206 P, o207 P, o208 P, o209 P, o210 P, o211 P, o212 P, o213 P, o214 P, o215 P, o216 P, o217 P, o218 P, o219 P, o220 P, o221 P, o222 P, o223 P, o224 P, o225 P, o226 P, o227 P, o228 P, o229 P, o230 P, o231 P, o232 P, o233 P, o234 P, o235 P, o236 P, o237 P, o238 P, o239 P, o240 P, o241 P, o242 P, o243 P, o244 P, o245 P, o246 P, o247 P, o248 P, o249 P, o250 P, o251 P, o252 P, o253 P, o254 P, o255 P, o256 P, o257 P, o258 P, o259 P, o260 P, o261 P, o262 P, o263 P, o264 P, o265 P, o266 P, o267 P, o268 P, o269 P, o270 P, o271 P, o272 P, o273 P, o274 P, o275 P, o276 P, o277 P, o278 P, o279 P, o280 P, o281 P, o282 P, o283 P, o284 P, o285 P, o286 P, o287 P, o288 P, o289 P, o290 P, o291 P, o292 P, o293 P, o294 P, o295 P, o296 P, o297 P, o298 P, o299 P, o300 P, o301 P, o302 P, o303 P, o304 P, o305 P, o306 P, o307 P, o308 P, o309 P, o310 P, o311 P, o312 P, o313 P, o314 P, o315 P, o316 P, o317 P, o318 P, o319 P, o320 P, o321 P, o322 P, o323 P, o324 P, o325 P, o326 P, o327 P, o328 P, o329 P, o330 P, o331 P, o332 P, o333 P, o334 P, o335 P, o336 P, o337 P, o338 P, o339 P, o340 P, o341 P, o342 P, o343 P, o344 P, o345 P, o346 P, o347 P, o348 P, o349 P, o350 P, o351 P, o352 P, o353 P, o354 P, o355 P, o356 P, o357 P, o358 P, o359 P, o360 P, o361 P, o362 P, o363 P, o364 P, o365 P, o366 P, o367 P, o368 P, o369 P, o370 P, o371 P, o372 P, o373 P, o374 P, o375 P, o376 P, o377 P, o378 P, o379 P, o380 P, o381 P, o382 P, o383 P, o384 P, o385 P, o386 P, o387 P, o388 P, o389 P, o390 P, o391 P, o392 P, o393 P, o394 P, o395 P, o396 P, o397 P, o398 P, o399 P, o400 P, o401 P, o402 P, o403 P, o404 P, o405 P, o406 P, o407 P, o408 P, o409 P, o410 P, o411 P, o412 P, o413 P, o414 P, o415 P, o416 P, o417 P, o418 P, o419 P, o420 P, o421 P, o422 P, o423 P, o424 P, o425 P, o426 P, o427 P, o428 P, o429 P, o430 P, o431 P, o432 P, o433 P, o434 P, o435 P, o436 P, o437 P, o438 P, o439 P, o440 P, o441 P, o442 P, o443 P, o444 P, o445 P, o446 P, o447 P, o448 P, o449 P, o450 P, o451 P, o452 P, o453 P, o454 P, o455 P, o456 P, o457 P, o458 P, o459 P, o460 P, o461 P, o462 P, o463 P, o464 P, o465 P, o466 P, o467 P, o468 P, o469 P, o470 P, o471 P, o472 P, o473 P, o474 P, o475 P, o476 P, o477 P, o478 P, o479 P, o480 P, o481 P, o482 P, o483 P, o484 P, o485 P, o486 P, o487 P, o488 P, o489 P, o490 P, o491 P, o492 P, o493 P, o494 P, o495 P, o496 P, o497 P, o498 P, o499 P, o500 P, o501 P, o502 P, o503 P, o504 P, o505 P, o506 P, o507 P, o508 P, o509 P, o510 P, o511 P, o512 P, o513 P, o514 P, o515 P, o516 P, o517 P, o518 P, o519 P, o520 P, o521 P, o522 P, o523 P, o524 P, o525 P, o526 P, o527 P, o528 P, o529 P, o530 P, o531 P, o532 P, o533 P, o534 P, o535 P, o536 P, o537 P, o538 P, o539 P, o540 P, o541 P, o542 P, o543 P, o544 P, o545 P, o546 P, o547 P, o548 P, o549 P, o550 P, o551 P, o552 P, o553 P, o554 P, o555 P, o556 P, o557 P, o558 P, o559 P, o560 P, o561 P, o562 P, o563 P, o564 P, o565 P, o566 P, o567 P, o568 P, o569 P, o570 P, o571 P, o572 P, o573 P, o574 P, o575 P, o576 P, o577 P, o578 P, o579 P, o580 P, o581 P, o582 P, o583 P, o584 P, o585 P, o586 P, o587 P, o588 P, o589 P, o590 P, o591 P, o592 P, o593 P, o594 P, o595 P, o596 P, o597 P, o598 P, o599 P, o600 P, o601 P, o602 P, o603 P, o604 P, o605 P, o606 P, o607 P, o608 P, o609 P, o610 P, o611 P, o612 P, o613 P, o614 P, o615 P, o616 P, o617 P, o618 P, o619 P, o620 P, o621 P, o622 P, o623 P, o624 P, o625 P, o626 P, o627 P, o628 P, o629 P, o630 P, o631 P, o632 P, o633 P, o634 P, o635 P, o636 P, o637 P, o638 P, o639 P, o640 P, o641 P, o642 P, o643 P, o644 P, o645 P, o646 P, o647 P]
noncomputable def l9 (P : Params) : List Obj := [PySem.W.boot_o_0 P, PySem.W.boot_o_1 P, PySem.W.boot_o_2 P, o3v9 P, PySem.W.boot_o_4 P, PySem.W.boot_o_5 P, PySem.W.boot_o_6 P, PySem.W.boot_o_7 P, PySem.W.boot_o_8 P, PySem.W.boot_o_9 P, PySem.W.boot_o_10 P, o11 P, o12v8 P, o13 P, o14 P, o15 P, o16 P, o17 P, o18 P, o19 P, o20 P, o21 P, o22 P, o23 P, o24 P, o25 P, o26 P, o27 P, o28 P, o29 P, o30 P, o31 P, o32 P, o33 P, o34 P, o35 P, o36 P, o37 P, o38 P, o39v2 P, o40 P, o41 P, o42 P, o43 P, o44 P, o45 P, o46 P, o47 P, o48 P, o49 P, o50 P, o51 P, o52 P, o53 P, o54 P, o55 P, o56 P, o57 P, o58 P, o59 P, o60 P, o61 P, o62 P, o63 P, o64 P, o65 P, o66 P, o67 P, o68 P, o69 P, o70 P, o71 P, o72 P, o73 P, o74 P, o75 P, o76 P, o77 P, o78 P, o79 P, o80 P, o81 P, o82 P, o83 P, o84 P, o85 P, o86 P, o87 P, o88 P, o89 P, o90 P, o91 P, o92 P, o93 P, o94 P, o95 P, o96 P, o97 P, o98 P, o99 P, o100 P, o101 P, o102 P, o103 P, o104 P, o105 P, o106 P, o107 P, o108 P, o109 P, o110 P, o111 P, o112 P, o113 P, o114 P, o115 P, o116 P, o117 P, o118 P, o119 P, o120 P, o121 P, o122 P, o123 P, o124 P, o125 P, o126 P, o127 P, o128 P, o129 P, o130 P, o131 P, o132 P, o133 P, o134 P, o135 P, o136 P, o137 P, o138 P, o139 P, o140 P, o141 P, o142 P, o143 P, o144 P, o145 P, o146 P, o147 P, o148 P, o149 P, o150 P, o151 P, o152 P, o153 P, o154 P, o155 P, o156 P, o157 P, o158 P, o159 P, o160 P, o161 P, o162 P, o163 P, o164 P, o165 P, o166 P, o167 P, o168 P, o169 P, o170 P, o171 P, o172 P, o173 P, o174 P, o175 P, o176 P, o177 P, o178 P, o179 P, o180 P, o181 P, o182 P, o183 P, o184 P, o185 P, o186 P, o187 P, o188 P, o189 P, o190 P, o191 P, o192 P, o193 P, o194 P, o195 P, o196 P, o197 P, o198 P, o199 P, o200 P, o201 P, o202 P, o203 P, o204 P, o205 P, o206 P, o207 P, o208 P, o209 P, o210 P, o211 P, o212 P, o213 P, o214 P, o215 P, o216 P, o217 P, o218 P, o219 P, o220 P, o221 P, o222 P, o223 P, o224 P, o225 P, o226 P, o227 P, o228 P, o229 P, o230 P, o231 P, o232 P, o233 P, o234 P, o235 P, o236 P, o237 P, o238 P, o239 P, o240 P, o241 P, o242 P, o243 P, o244 P, o245 P, o246 P, o247 P, o248 P, o249 P, o250 P, o251 P, o252 P, o253 P, o254 P, o255 P, o256 P, o257 P, o258 P, o259 P, o260 P, o261 P, o262 P, o263 P, o264 P, o265 P, o266 P, o267 P, o268 P, o269 P, o270 P, o271 P, o272 P, o273 P, o274 P, o275 P, o276 P, o277 P, o278 P, o279 P, o280 P, o281 P, o282 P, o283 P, o284 P, o285 P, o286 P, o287 P, o288 P, o289 P, o290 P, o291 P, o292 P, o293 P, o294 P, o295 P, o296 P, o297 P, o298 P, o299 P, o300 P, o301 P, o302 P, o303 P, o304 P, o305 P, o306 P, o307 P, o308 P, o309 P, o310 P, o311 P, o312 P, o313 P, o314 P, o315 P, o316 P, o317 P, o318 P, o319 P, o320 P, o321 P, o322 P, o323 P, o324 P, o325 P, o326 P, o327 P, o328 P, o329 P, o330 P, o331 P, o332 P, o333 P, o334 P, o335 P, o336 P, o337 P, o338 P, o339 P, o340 P, o341 P, o342 P, o343 P, o344 P, o345 P, o346 P, o347 P, o348 P, o349 P, o350 P, o351 P, o352 P, o353 P, o354 P, o355 P, o356 P, o357 P, o358 P, o359 P, o360 P, o361 P, o362 P, o363 P, o364 P, o365 P, o366 P, o367 P, o368 P, o369 P, o370 P, o371 P, o372 P, o373 P, o374 P, o375 P, o376 P, o377 P, o378 P, o379 P, o380 P, o381 P, o382 P, o383 P, o384 P, o385 P, o386 P, o387 P, o388 P, o389 P, o390 P, o391 P, o392 P, o393 P, o394 P, o395 P, o396 P, o397 P, o398 P, o399 P, o400 P, o401 P, o402 P, o403 P, o404 P, o405 P, o406 P, o407 P, o408 P, o409 P, o410 P, o411 P, o412 P, o413 P, o414 P, o415 P, o416 P, o417 P, o418 P, o419 P, o420 P, o421 P, o422 P, o423 P, o424 P, o425 P, o426 P, o427 P, o428 P, o429 P, o430 P, o431 P, o432 P, o433 P, o434 P, o435 P, o436 P, o437 P, o438 P, o439 P, o440 P, o441 P, o442 P, o443 P, o444 P, o445 P, o446 P, o447 P, o448 P, o449 P, o450 P, o451 P, o452 P, o453 P, o454 P, o455 P, o456 P, o457 P, o458 P, o459 P, o460 P, o461 P, o462 P, o463 P, o464 P, o465 P, o466 P, o467 P, o468 P, o469 P, o470 P, o471 P, o472 P, o473 P, o474 P, o475 P, o476 P, o477 P, o478 P, o479 P, o480 P, o481 P, o482 P, o483 P, o484 P, o485 P, o486 P, o487 P, o488 P, o489 P, o490 P, o491 P, o492 P, o493 P, o494 P, o495 P, o496 P, o497 P, o498 P, o499 P, o500 P, o501 P, o502 P, o503 P, o504 P, o505 P, o506 P, o507 P, o508 P, o509 P, o510 P, o511 P, o512 P, o513 P, o514 P, o515 P, o516 P, o517 P, o518 P, o519 P, o520 P, o521 P, o522 P, o523 P, o524 P, o525 P, o526 P, o527 P, o528 P, o529 P, o530 P, o531 P, o532 P, o533 P, o534 P, o535 P, o536 P, o537 P, o538 P, o539 P, o540 P, o541 P, o542 P, o543 P, o544 P, o545 P, o546 P, o547 P, o548 P, o549 P, o550 P, o551 P, o552 P, o553 P, o554 P, o555 P, o556 P, o557 P, o558 P, o559 P, o560 P, o561 P, o562 P, o563 P, o564 P, o565 P, o566 P, o567 P, o568 P, o569 P, o570 P, o571 P, o572 P, o573 P, o574 P, o575 P, o576 P, o577 P, o578 P, o579 P, o580 P, o581 P, o582 P, o583 P, o584 P, o585 P, o586 P, o587 P, o588 P, o589 P, o590 P, o591 P, o592 P, o593 P, o594 P, o595 P, o596 P, o597 P, o598 P, o599 P, o600 P, o601 P, o602 P, o603 P, o604 P, o605 P, o606 P, o607 P, o608 P, o609 P, o610 P, o611 P, o612 P, o613 P, o614 P, o615 P, o616 P, o617 P, o618 P, o619 P, o620 P, o621 P, o622 P, o623 P, o624 P, o625 P, o626 P, o627 P, o628 P, o629 P, o630 P, o631 P, o632 P, o633 P, o634 P, o635 P, o636 P, o637 P, o638 P, o639 P, o640 P, o641 P, o642 P, o643 P, o644 P, o645 P, o646 P, o647 P, o648 P, o649 P, o650 P, o651 P, o652 P, o653 P, o654 P, o655 P, o656 P, o657 P, o658 P, o659 P, o660 P, o661 P, o662 P, o663 P, o664 P, o665 P, o666 P, o667 P, o668 P, o669 P, o670 P, o671 P, o672 P, o673 P, o674 P, o675 P, o676 P, o677 P, o678 P, o679 P, o680 P, o681 P, o682 P, o683 P, o684 P, o685 P, o686 P, o687 P, o688 P, o689 P, o690 P, o691 P, o692 P, o693 P, o694 P, o695 P, o696 P, o697 P, o698 P, o699 P, o700 P, o701 P, o702 P, o703 P, o704 P, o705 P, o706 P, o707 P, o708 P, o709 P, o710 P, o711 P, o712 P, o713 P, o714 P, o715 P, o716 P, o717 P, o718 P, o719 P, o720 P, o721 P, o722 P, o723 P, o724 P, o725 P, o726 P, o727 P, o728 P, o729 P, o730 P, o731 P, o732 P, o733 P, o734 P, o735 P, o736 P, o737 P, o738 P, o739 P, o740 P, o741 P, o742 P, o743 P, o744 P, o745 P, o746 P, o747 P, o748 P, o749 P, o750 P, o751 P, o752 P, o753 P, o754 P]
noncomputable def l10 (P : Params) : List Obj := [PySem.W.boot_o_0 P, PySem.W.boot_o_1 P, PySem.W.boot_o_2 P, o3v10 P, PySem.W.boot_o_4 P, PySem.W.boot_o_5 P, PySem.W.boot_o_6 P, PySem.W.boot_o_7 P, PySem.W.boot_o_8 P, PySem.W.boot_o_9 P, PySem.W.boot_o_10 P, o11 P, o12v9 P, o13 P, o14 P, o15 P, o16 P, o17 P, o18 P, o19 P, o20 P, o21 P, o22 P, o23 P, o24 P, o25 P, o26 P, o27 P, o28 P, o29 P, o30 P, o31 P, o32 P, o33 P, o34 P, o35 P, o36 P, o37 P, o38 P, o39v2 P, o40 P, o41 P, o42 P, o43 P, o44 P, o45 P, o46 P, o47 P, o48 P, o49 P, o50 P, o51 P, o52 P, o53 P, o54 P, o55 P, o56 P, o57 P, o58 P, o59 P, o60 P, o61 P, o62 P, o63 P, o64 P, o65 P, o66 P, o67 P, o68 P, o69 P, o70 P, o71 P, o72 P, o73 P, o74 P, o75 P, o76 P, o77 P, o78 P, o79 P, o80 P, o81 P, o82 P, o83 P, o84 P, o85 P, o86 P, o87 P, o88 P, o89 P, o90 P, o91 P, o92 P, o93 P, o94 P, o95 P, o96 P, o97 P, o98 P, o99 P, o100 P, o101 P, o102 P, o103 P, o104 P, o105 P, o106 P, o107 P, o108 P, o109 P, o110 P, o111 P, o112 P, o113 P, o114 P, o115 P, o116 P, o117 P, o118 P, o119 P, o120 P, o121 P, o122 P, o123 P, o124 P, o125 P, o126 P, o127 P, o128 P, o129 P, o130 P, o131 P, o132 P, o133 P, o134 P, o135 P, o136 P, o137 P, o138 P, o139 P, o140 P, o141 P, o142 P, o143 P, o144 P, o145 P, o146 P, o147 P, o148 P, o149 P, o150 P, o151 P, o152 P, o153 P, o154 P, o155 P, o156 P, o157 P, o158 P, o159 P, o160 P, o161 P, o162 P, o163 P, o164 P, o165 P, o166 P, o167 P, o168 P, o169 P, o170 P, o171 P, o172 P, o173 P, o174 P, o175 P, o176 P, o177 P, o178 P, o179 P, o180 P, o181 P, o182 P, o183 P, o184 P, o185 P, o186 P, o187 P, o188 P, o189 P, o190 P, o191 P, o192 P, o193 P, o194 P, o195 P, o196 P, o197 P, o198 P, o199 P, o200 P, o201 P, o202 P, o203 P, o204 P, o205 P, o206 P, o207 P, o208 P, o209 P, o210 P, o211 P, o212 P, o213 P, o214 P, o215 P, o216 P, o217 P, o218 P, o219 P, o220 P, o221 P, o222 P, o223 P, o224 P, o225 P, o226 P, o227 P, o228 P, o229 P, o230 P, o231 P, o232 P, o233 P, o234 P, o235 P, o236 P, o237 P, o238 P, o239 P, o240 P, o241 P, o242 P, o243 P, o244 P, o245 P, o246 P, o247 P, o248 P, o249 P, o250 P, o251 P, o252 P, o253 P, o254 P, o255 P, o256 P, o257 P, o258 P, o259 P, o260 P, o261 P, o262 P, o263 P, o264 P, o265 P, o266 P, o267 P, o268 P, o269 P, o270 P, o271 P, o272 P, o273 P, o274 P, o275 P, o276 P, o277 P, o278 P, o279 P, o280 P, o281 P, o282 P, o283 P, o284 P, o285 P, o286 P, o287 P, o288 P, o289 P, o290 P, o291 P, o292 P, o293 P, o294 P, o295 P, o296 P, o297 P, o298 P, o299 P, o300 P, o301 P, o302 P, o303 P, o304 P, o305 P, o306 P, o307 P, o308 P, o309 P, o310 P, o311 P, o312 P, o313 P, o314 P, o315 P, o316 P, o317 P, o318 P, o319 P, o320 P, o321 P, o322 P, o323 P, o324 P, o325 P, o326 P, o327 P, o328 P, o329 P, o330 P, o331 P, o332 P, o333 P, o334 P, o335 P, o336 P, o337 P, o338 P, o339 P, o340 P, o341 P, o342 P, o343 P, o344 P, o345 P, o346 P, o347 P, o348 P, o349 P, o350 P, o351 P, o352 P, o353 P, o354 P, o355 P, o356 P, o357 P, o358 P, o359 P, o360 P, o361 P, o362 P, o363 P, o364 P, o365 P, o366 P, o367 P, o368 P, o369 P, o370 P, o371 P, o372 P, o373 P, o374 P, o375 P, o376 P, o377 P, o378 P, o379 P, o380 P, o381 P, o382 P, o383 P, o384 P, o385 P, o386 P, o387 P, o388 P, o389 P, o390 P, o391 P, o392 P, o393 P, o394 P, o395 P, o396 P, o397 P, o398 P, o399 P, o400 P, o401 P, o402 P, o403 P, o404 P, o405 P, o406 P, o407 P, o408 P, o409 P, o410 P, o411 P, o412 P, o413 P, o414 P, o415 P, o416 P, o417 P, o418 P, o419 P, o420 P, o421 P, o422 P, o423 P, o424 P, o425 P, o426 P, o427 P, o428 P, o429 P, o430 P, o431 P, o432 P, o433 P, o434 P, o435 P, o436 P, o437 P, o438 P, o439 P, o440 P, o441 P, o442 P, o443 P, o444 P, o445 P, o446 P, o447 P, o448 P, o449 P, o450 P, o451 P, o452 P, o453 P, o454 P, o455 P, o456 P, o457 P, o458 P, o459 P, o460 P, o461 P, o462 P, o463 P, o464 P, o465 P, o466 P, o467 P, o468 P, o469 P, o470 P, o471 P, o472 P, o473 P, o474 P, o475 P, o476 P, o477 P, o478 P, o479 P, o480 P, o481 P, o482 P, o483 P, o484 P, o485 P, o486 P, o487 P, o488 P, o489 P, o490 P, o491 P, o492 P, o493 P, o494 P, o495 P, o496 P, o497 P, o498 P, o499 P, o500 P, o501 P, o502 P, o503 P, o504 P, o505 P, o506 P, o507 P, o508 P, o509 P, o510 P, o511 P, o512 P, o513 P, o514 P, o515 P, o516 P, o517 P, o518 P, o519 P, o520 P, o521 P, o522 P, o523 P, o524 P, o525 P, o526 P, o527 P, o528 P, o529 P, o530 P, o531 P, o532 P, o533 P, o534 P, o535 P, o536 P, o537 P, o538 P, o539 P, o540 P, o541 P, o542 P, o543 P, o544 P, o545 P, o546 P, o547 P, o548 P, o549 P, o550 P, o551 P, o552 P, o553 P, o554 P, o555 P, o556 P, o557 P, o558 P, o559 P, o560 P, o561 P, o562 P, o563 P, o564 P, o565 P, o566 P, o567 P, o568 P, o569 P, o570 P, o571 P, o572 P, o573 P, o574 P, o575 P, o576 P, o577 P, o578 P, o579 P, o580 P, o581 P, o582 P, o583 P, o584 P, o585 P, o586 P, o587 P, o588 P, o589 P, o590 P, o591 P, o592 P, o593 P, o594 P, o595 P, o596 P, o597 P, o598 P, o599 P, o600 P, o601 P, o602 P, o603 P, o604 P, o605 P, o606 P, o607 P, o608 P, o609 P, o610 P, o611 P, o612 P, o613 P, o614 P, o615 P, o616 P, o617 P, o618 P, o619 P, o620 P, o621 P, o622 P, o623 P, o624 P, o625 P, o626 P, o627 P, o628 P, o629 P, o630 P, o631 P, o632 P, o633 P, o634 P, o635 P, o636 P, o637 P, o638 P, o639 P, o640 P, o641 P, o642 P, o643 P, o644 P, o645 P, o646 P, o647 P, o648 P, o649 P, o650 P, o651 P, o652 P, o653 P, o654 P, o655 P, o656 P, o657 P, o658 P, o659 P, o660 P, o661 P, o662 P, o663 P, o664 P, o665 P, o666 P, o667 P, o668 P, o669 P, o670 P, o671 P, o672 P, o673 P, o674 P, o675 P, o676 P, o677 P, o678 P, o679 P, o680 P, o681 P, o682 P, o683 P, o684 P, o685 P, o686 P, o687 P, o688 P, o689 P, o690 P, o691 P, o692 P, o693 P, o694 P, o695 P, o696 P, o697 P, o698 P, o699 P, o700 P, o701 P, o702 P, o703 P, o704 P, o705 P, o706 P, o707 P, o708 P, o709 P, o710 P, o711 P, o712 P, o713 P, o714 P, o715 P, o716 P, o717 P, o718 P, o719 P, o720 P, o721 P, o722 P, o723 P, o724 P, o725 P, o726 P, o727 P, o728 P, o729 P, o730 P, o731 P, o732 P, o733 P, o734 P, o735 P, o736 P, o737 P, o738 P, o739 P, o740 P, o741 P, o742 P, o743 P, o744 P, o745 P, o746 P, o747 P, o748 P, o749 P, o750 P, o751 P, o752 P, o753 P, o754 P, o755 P, o756 P, o757 P, o758 P, o759 P, o760 P, o761 P, o762 P, o763 P, o764 P, o765 P, o766 P, o767 P, o768 P, o769 P, o770 P, o771 P, o772 P, o773 P, o774 P, o775 P, o776 P, o777 P, o778 P, o779 P, o780 P, o781 P, o782 P, o783 P, o784 P, o785 P, o786 P, o787 P, o788 P, o789 P, o790 P, o791 P, o792 P, o793 P, o794 P, o795 P, o796 P, o797 P, o798 P, o799 P, o800 P, o801 P, o802 P, o803 P, o804 P, o805 P, o806 P, o807 P, o808 P, o809 P, o810 P, o811 P, o812 P, o813 P, o814 P, o815 P, o816 P, o817 P, o818 P, o819 P, o820 P, o821 P, o822 P, o823 P, o824 P, o825 P, o826 P, o827 P, o828 P, o829 P, o830 P, o831 P, o832 P, o833 P, o834 P, o835 P, o836 P, o837 P, o838 P, o839 P, o840 P, o841 P, o842 P, o843 P, o844 P, o845 P, o846 P, o847 P, o848 P, o849 P, o850 P, o851 P, o852 P, o853 P, o854 P, o855 P, o856 P, o857 P, o858 P, o859 P, o860 P, o861 P, o862 P, o863 P, o864 P, o865 P, o866 P, o867 P, o868 P, o869 P, o870 P, o871 P, o872 P, o873 P, o874 P, o875 P, o876 P, o877 P, o878 P, o879 P, o880 P, o881 P, o882 P, o883 P, o884 P, o885 P, o886 P, o887 P, o888 P, o889 P, o890 P, o891 P, o892 P, o893 P, o894 P, o895 P, o896 P, o897 P, o898 P, o899 P, o900 P, o901 P, o902 P, o903 P, o904 P, o905 P, o906 P, o907 P, o908 P, o909 P, o910 P, o911 P, o912 P]
noncomputable def l11 (P : Params) : List Obj := [PySem.W.boot_o_0 P, PySem.W.boot_o_1 P, PySem.W.boot_o_2 P, o3v10 P, PySem.W.boot_o_4 P, PySem.W.boot_o_5 P, PySem.W.boot_o_6 P, PySem.W.boot_o_7 P, PySem.W.boot_o_8 P, PySem.W.boot_o_9 P, PySem.W.boot_o_10 P, o11 P, o12v9 P, o13 P, o14 P, o15 P, o16 P, o17 P, o18 P, o19 P, o20 P, o21 P, o22 P, o23 P, o24 P, o25 P, o26 P, o27 P, o28 P, o29 P, o30 P, o31 P, o32 P, o33 P, o34 P, o35 P, o36 P, o37 P, o38 P, o39v2 P, o40 P, o41 P, o42 P, o43 P, o44 P, o45 P, o46 P, o47 P, o48 P, o49 P, o50 P, o51 P, o52 P, o53 P, o54 P, o55 P, o56 P, o57 P, o58 P, o59 P, o60 P, o61 P, o62 P, o63 P, o64 P, o65 P, o66 P, o67 P, o68 P, o69 P, o70 P, o71 P, o72 P, o73 P, o74 P, o75 P, o76 P, o77 P, o78 P, o79 P, o80 P, o81 P, o82 P, o83 P, o84 P, o85 P, o86 P, o87 P, o88 P, o89 P, o90 P, o91 P, o92 P, o93 P, o94 P, o95 P, o96 P, o97 P, o98 P, o99 P, o100 P, o101 P, o102 P, o103 P, o104 P, o105 P, o106 P, o107 P, o108 P, o109 P, o110 P, o111 P, o112 P, o113 P, o114 P, o115 P, o116 P, o117 P, o118 P, o119 P, o120 P, o121 P, o122 P, o123 P, o124 P, o125 P, o126 P, o127 P, o128 P, o129 P, o130 P, o131 P, o132 P, o133 P, o134 P, o135 P, o136 P, o137 P, o138 P, o139 P, o140 P, o141 P, o142 P, o143 P, o144 P, o145 P, o146 P, o147 P, o148 P, o149 P, o150 P, o151 P, o152 P, o153 P, o154 P, o155 P, o156 P, o157 P, o158 P, o159 P, o160 P, o161 P, o162 P, o163 P, o164 P, o165 P, o166 P, o167 P, o168 P, o169 P, o170 P, o171 P, o172 P, o173 P, o174 P, o175 P, o176 P, o177 P, o178 P, o179 P, o180 P, o181 P, o182 P, o183 P, o184 P, o185 P, o186 P, o187 P, o188 P, o189 P, o190 P, o191 P, o192 P, o193 P, o194 P, o195 P, o196 P, o197 P, o198 P, o199 P, o200 P, o201 P, o202 P, o203 P, o204 P, o205 P, o206 P, o207 P, o208 P, o209 P, o210 P, o211 P, o212 P, o213 P, o214 P, o215 P, o216 P, o217 P, o218 P, o219 P, o220 P, o221 P, o222 P, o223 P, o224 P, o225 P, o226 P, o227 P, o228 P, o229 P, o230 P, o231 P, o232 P, o233 P, o234 P, o235 P, o236 P, o237 P, o238 P, o239 P, o240 P, o241 P, o242 P, o243 P, o244 P, o245 P, o246 P, o247 P, o248 P, o249 P, o250 P, o251 P, o252 P, o253 P, o254 P, o255 P, o256 P, o257 P, o258 P, o259 P, o260 P, o261 P, o262 P, o263 P, o264 P, o265 P, o266 P, o267 P, o268 P, o269 P, o270 P, o271 P, o272 P, o273 P, o274 P, o275 P, o276 P, o277 P, o278 P, o279 P, o280 P, o281 P, o282 P, o283 P, o284 P, o285 P, o286 P, o287 P, o288 P, o289 P, o290 P, o291 P, o292 P, o293 P, o294 P, o295 P, o296 P, o297 P, o298 P, o299 P, o300 P, o301 P, o302 P, o303 P, o304 P, o305 P, o306 P, o307 P, o308 P, o309 P, o310 P, o311 P, o312 P, o313 P, o314 P, o315 P, o316 P, o317 P, o318 P, o319 P, o320 P, o321 P, o322 P, o323 P, o324 P, o325 P, o326 P, o327 P, o328 P, o329 P, o330 P, o331 P, o332 P, o333 P, o334 P, o335 P, o336 P, o337 P, o338 P, o339 P, o340 P, o341 P, o342 P, o343 P, o344 P, o345 P, o346 P, o347 P, o348 P, o349 P, o350 P, o351 P, o352 P, o353 P, o354 P, o355 P, o356 P, o357 P, o358 P, o359 P, o360 P, o361 P, o362 P, o363 P, o364 P, o365 P, o366 P, o367 P, o368 P, o369 P, o370 P, o371 P, o372 P, o373 P, o374 P, o375 P, o376 P, o377 P, o378 P, o379 P, o380 P, o381 P, o382 P, o383 P, o384 P, o385 P, o386 P, o387 P, o388 P, o389 P, o390 P, o391 P, o392 P, o393 P, o394 P, o395 P, o396 P, o397 P, o398 P, o399 P, o400 P, o401 P, o402 P, o403 P, o404 P, o405 P, o406 P, o407 P, o408 P, o409 P, o410 P, o411 P, o412 P, o413 P, o414 P, o415 P, o416 P, o417 P, o418 P, o419 P, o420 P, o421 P, o422 P, o423 P, o424 P, o425 P, o426 P, o427 P, o428 P, o429 P, o430 P, o431 P, o432 P, o433 P, o434 P, o435 P, o436 P, o437 P, o438 P, o439 P, o440 P, o441 P, o442 P, o443 P, o444 P, o445 P, o446 P, o447 P, o448 P, o449 P, o450 P, o451 P, o452 P, o453 P, o454 P, o455 P, o456 P, o457 P, o458 P, o459 P, o460 P, o461 P, o462 P, o463 P, o464 P, o465 P, o466 P, o467 P, o468 P, o469 P, o470 P, o471 P, o472 P, o473 P, o474 P, o475 P, o476 P, o477 P, o478 P, o479 P, o480 P, o481 P, o482 P, o483 P, o484 P, o485 P, o486 P, o487 P, o488 P, o489 P, o490 P, o491 P, o492 P, o493 P, o494 P, o495 P, o496 P, o497 P, o498 P, o499 P, o500 P, o501 P, o502 P, o503 P, o504 P, o505 P, o506 P, o507 P, o508 P, o509 P, o510 P, o511 P, o512 P, o513 P, o514 P, o515 P, o516 P, o517 P, o518 P, o519 P, o520 P, o521 P, o522 P, o523 P, o524 P, o525 P, o526 P, o527 P, o528 P, o529 P, o530 P, o531 P, o532 P, o533 P, o534 P, o535 P, o536 P, o537 P, o538 P, o539 P, o540 P, o541 P, o542 P, o543 P, o544 P, o545 P, o546 P, o547 P, o548 P, o549 P, o550 P, o551 P, o552 P, o553 P, o554 P, o555 P, o556 P, o557 P, o558 P, o559 P, o560 P, o561 P, o562 P, o563 P, o564 P, o565 P, o566 P, o567 P, o568 P, o569 P, o570 P, o571 P, o572 P, o573 P, o574 P, o575 P, o576 P, o577 P, o578 P, o579 P, o580 P, o581 P, o582 P, o583 P, o584 P, o585 P, o586 P, o587 P, o588 P, o589 P, o590 P, o591 P, o592 P, o593 P, o594 P, o595 P, o596 P, o597 P, o598 P, o599 P, o600 P, o601 P, o602 P, o603 P, o604 P, o605 P, o606 P, o607 P, o608 P, o609 P, o610 P, o611 P, o612 P, o613 P, o614 P, o615 P, o616 P, o617 P, o618 P, o619 P, o620 P, o621 P, o622 P, o623 P, o624 P, o625 P, o626 P, o627 P, o628 P, o629 P, o630 P, o631 P, o632 P, o633 P, o634 P, o635 P, o636 P, o637 P, o638 P, o639 P, o640 P, o641 P, o642 P, o643 P, o644 P, o645 P, o646 P, o647 P, o648 P, o649 P, o650 P, o651 P, o652 P, o653 P, o654 P, o655 P, o656 P, o657 P, o658 P, o659 P, o660 P, o661 P, o662 P, o663 P, o664 P, o665 P, o666 P, o667 P, o668 P, o669 P, o670 P, o671 P, o672 P, o673 P, o674 P, o675 P, o676 P, o677 P, o678 P, o679 P, o680 P, o681 P, o682 P, o683 P, o684 P, o685 P, o686 P, o687 P, o688 P, o689 P, o690 P, o691 P, o692 P, o693 P, o694 P, o695 P, o696 P, o697 P, o698 P, o699 P, o700 P, o701 P, o702 P, o703 P, o704 P, o705 P, o706 P, o707 P, o708 P, o709 P, o710 P, o711 P, o712 P, o713 P, o714 P, o715 P, o716 P, o717 P, o718 P, o719 P, o720 P, o721 P, o722 P, o723 P, o724 P, o725 P, o726 P, o727 P, o728 P, o729 P, o730 P, o731 P, o732 P, o733 P, o734 P, o735 P, o736 P, o737 P, o738 P, o739 P, o740 P, o741 P, o742 P, o743 P, o744 P, o745 P, o746 P, o747 P, o748 P, o749 P, o750 P, o751 P, o752 P, o753 P, o754 P, o755 P, o756 P, o757 P, o758 P, o759 P, o760 P, o761 P, o762 P, o763 P, o764 P, o765 P, o766 P, o767 P, o768 P, o769 P, o770 P, o771 P, o772 P, o773 P, o774 P, o775 P, o776 P, o777 P, o778 P, o779 P, o780 P, o781 P, o782 P, o783 P, o784 P, o785 P, o786 P, o787 P, o788 P, o789 P, o790 P, o791 P, o792 P, o793 P, o794 P, o795 P, o796 P, o797 P, o798 P, o799 P, o800 P, o801 P, o802 P, o803 P, o804 P, o805 P, o806 P, o807 P, o808 P, o809 P, o810 P, o811 P, o812 P, o813 P, o814 P, o815 P, o816 P, o817 P, o818 P, o819 P, o820 P, o821 P, o822 P, o823 P, o824 P, o825 P, o826 P, o827 P, o828 P, o829 P, o830 P, o831 P, o832 P, o833 P, o834 P, o835 P, o836 P, o837 P, o838 P, o839 P, o840 P, o841 P, o842 P, o843 P, o844 P, o845 P, o846 P, o847 P, o848 P, o849 P, o850 P, o851 P, o852 P, o853 P, o854 P, o855 P, o856 P, o857 P, o858 P, o859 P, o860 P, o861 P, o862 P, o863 P, o864 P, o865 P, o866 P, o867 P, o868 P, o869 P, o870 P, o871 P, o872 P, o873 P, o874 P, o875 P, o876 P, o877 P, o878 P, o879 P, o880 P, o881 P, o882 P, o883 P, o884 P, o885 P, o886 P, o887 P, o888 P, o889 P, o890 P, o891 P, o892 P, o893 P, o894 P, o895 P, o896 P, o897 P, o898 P, o899 P, o900 P, o901 P, o902 P, o903 P, o904 P, o905 P, o906 P, o907 P, o908 P, o909 P, o910 P, o911 P, o912 P]
noncomputable def S0 (w : World) (os : OsState) : Shared := ⟨boot_heap w.params, #[], boot_drawn, boot_toks, os⟩
noncomputable def Sa (w : World) (os : OsState) : Shared := ⟨⟨(l0 w.params).toArray, {}⟩, #[], {}, 187, os⟩
noncomputable def tr1 (P : Params) : BT := ofL 12 (l1 P)
noncomputable def T1 (w : World) (os : OsState) : SharedT := ⟨tr1 w.params, 15, {}, #[], {}, 187, os⟩
noncomputable def tr2 (P : Params) : BT := ofL 12 (l2 P)
noncomputable def T2 (w : World) (os : OsState) : SharedT := ⟨tr2 w.params, 86, {}, #[], {}, 281, os⟩
noncomputable def tr3 (P : Params) : BT := ofL 12 (l3 P)
noncomputable def T3 (w : World) (os : OsState) : SharedT := ⟨tr3 w.params, 106, {}, #[], {}, 374, os⟩
noncomputable def tr4 (P : Params) : BT := ofL 12 (l4 P)
noncomputable def T4 (w : World) (os : OsState) : SharedT := ⟨tr4 w.params, 108, {}, #[], {}, 388, os⟩
noncomputable def tr5 (P : Params) : BT := ofL 12 (l5 P)
noncomputable def T5 (w : World) (os : OsState) : SharedT := ⟨tr5 w.params, 213, {}, #[], {}, 526, os⟩
noncomputable def tr6 (P : Params) : BT := ofL 12 (l6 P)
noncomputable def T6 (w : World) (os : OsState) : SharedT := ⟨tr6 w.params, 307, {}, #[], {}, 686, os⟩
noncomputable def tr7 (P : Params) : BT := ofL 12 (l7 P)
noncomputable def T7 (w : World) (os : OsState) : SharedT := ⟨tr7 w.params, 467, {}, #[], {}, 942, os⟩
noncomputable def tr8 (P : Params) : BT := ofL 12 (l8 P)
noncomputable def T8 (w : World) (os : OsState) : SharedT := ⟨tr8 w.params, 648, {}, #[], {}, 1191, os⟩
noncomputable def tr9 (P : Params) : BT := ofL 12 (l9 P)
noncomputable def T9 (w : World) (os : OsState) : SharedT := ⟨tr9 w.params, 755, {}, #[], {}, 1350, os⟩
noncomputable def tr10 (P : Params) : BT := ofL 12 (l10 P)
noncomputable def T10 (w : World) (os : OsState) : SharedT := ⟨tr10 w.params, 913, {}, #[], {}, 1567, os⟩
noncomputable def H1 (P : Params) : Heap := ⟨(l11 P).toArray, {}⟩
noncomputable def Sf (w : World) (os : OsState) : Shared := ⟨H1 w.params, #[], {}, 1567, os⟩
noncomputable def env0 : Env := { scope := prg.main.scope, locals := mainNs, globals := mainNs, cells := [], code := (.ref 13), frame := some 14 }
noncomputable def bE : List Stmt := behindTheImports prg
noncomputable def cE : Code := .body bE env0
noncomputable def fq : Pos := ⟨0, 0, 0, 0⟩
noncomputable abbrev Bf : List Frame := [topFrame fq]
theorem tpre (w : World) (os : OsState) : topGo treeTable prg w 11 (some (.ref 6)) 12 (S0 w os) (topStub prg) = some (Sa w os, ⟨denote treeTable cE, cE, ⟨0, 0, 0, 0⟩, Bf⟩) := by
  rw [PySem.W.Fast.te15667345088766844465, PySem.W.Fast.te11892475500146522536, PySem.W.Fast.te14364793385576792824]; kernel_rfl
theorem tblock (w : World) (os : OsState) : segRun treeTable prg w 11 (some (.ref 6)) 1 1 (Sa w os) (blockOf bE env0 cE ⟨0, 0, 0, 0⟩ Bf) = some (.next, (T1 w os).abs, cE, ⟨0, 0, 0, 0⟩) := by
  rw [PySem.W.Fast.te14374325043358763698, PySem.W.Fast.te14364793385576792824]; kernel_rfl
noncomputable def sts1 : List Stmt := (body0.drop 0).take 6
theorem pc1 (w : World) (os : OsState) : segRunT treeTable prg w 11 (some (.ref 6)) 1 930 (T1 w os) (piecesOf sts1 env0 cE ⟨0, 0, 0, 0⟩ Bf) = some (.next, T2 w os, cE, ⟨17, 0, 18, 8⟩) := by
  rw [PySem.W.Fast.te10110043849684766642, PySem.W.Fast.te14364793385576792824]; kernel_rfl
noncomputable def sts2 : List Stmt := (body0.drop 6).take 18
theorem pc2 (w : World) (os : OsState) : segRunT treeTable prg w 11 (some (.ref 6)) 1 564 (T2 w os) (piecesOf sts2 env0 cE ⟨17, 0, 18, 8⟩ Bf) = some (.next, T3 w os, cE, ⟨55, 0, 55, 5⟩) := by
  rw [PySem.W.Fast.te10110043849684766642, PySem.W.Fast.te14364793385576792824]; kernel_rfl
noncomputable def sts3 : List Stmt := (body0.drop 24).take 2
theorem pc3 (w : World) : ∀ os : OsState, segRunT treeTable prg w 11 (some (.ref 6)) 1 195 (T3 w os) (piecesOf sts3 env0 cE ⟨55, 0, 55, 5⟩ Bf) = some (.next, T4 w os, cE, ⟨57, 0, 57, 13⟩) :=
  byRow2 "special-get-raises" (P := fun w => ∀ os : OsState, segRunT treeTable prg w 11 (some (.ref 6)) 1 195 (T3 w os) (piecesOf sts3 env0 cE ⟨55, 0, 55, 5⟩ Bf) = some (.next, T4 w os, cE, ⟨57, 0, 57, 13⟩)) (fun w os => by
    show segRunT treeTable prg (w.withFollow "special-get-raises" false) 11 (some (.ref 6)) 1 195 (T3 (w.withFollow "special-get-raises" false) os) (piecesOf sts3 env0 cE ⟨55, 0, 55, 5⟩ Bf) = some (.next, T4 (w.withFollow "special-get-raises" false) os, cE, ⟨57, 0, 57, 13⟩)
    rw [PySem.W.Fast.te10110043849684766642, PySem.W.Fast.te14364793385576792824]; kernel_rfl) (fun w os => by
    show segRunT treeTable prg (w.withFollow "special-get-raises" true) 11 (some (.ref 6)) 1 195 (T3 (w.withFollow "special-get-raises" true) os) (piecesOf sts3 env0 cE ⟨55, 0, 55, 5⟩ Bf) = some (.next, T4 (w.withFollow "special-get-raises" true) os, cE, ⟨57, 0, 57, 13⟩)
    rw [PySem.W.Fast.te10110043849684766642, PySem.W.Fast.te14364793385576792824]; kernel_rfl) w
noncomputable def sts4 : List Stmt := (body0.drop 26).take 6
theorem pc4 (w : World) (os : OsState) : segRunT treeTable prg w 11 (some (.ref 6)) 1 619 (T4 w os) (piecesOf sts4 env0 cE ⟨57, 0, 57, 13⟩ Bf) = some (.next, T5 w os, cE, ⟨103, 0, 112, 68⟩) := by
  rw [PySem.W.Fast.te10110043849684766642, PySem.W.Fast.te14364793385576792824]; kernel_rfl
noncomputable def sts5 : List Stmt := (body0.drop 32).take 2
theorem pc5 (w : World) (os : OsState) : segRunT treeTable prg w 11 (some (.ref 6)) 1 718 (T5 w os) (piecesOf sts5 env0 cE ⟨103, 0, 112, 68⟩ Bf) = some (.next, T6 w os, cE, ⟨160, 0, 186, 85⟩) := by
  rw [PySem.W.Fast.te10110043849684766642, PySem.W.Fast.te14364793385576792824]; kernel_rfl
noncomputable def sts6 : List Stmt := (body0.drop 34).take 7
theorem pc6 (w : World) (os : OsState) : segRunT treeTable prg w 11 (some (.ref 6)) 1 975 (T6 w os) (piecesOf sts6 env0 cE ⟨160, 0, 186, 85⟩ Bf) = some (.next, T7 w os, cE, ⟨335, 0, 337, 55⟩) := by
  rw [PySem.W.Fast.te10110043849684766642, PySem.W.Fast.te14364793385576792824]; kernel_rfl
noncomputable def sts7 : List Stmt := (body0.drop 41).take 2
theorem pc7 (w : World) (os : OsState) : segRunT treeTable prg w 11 (some (.ref 6)) 1 992 (T7 w os) (piecesOf sts7 env0 cE ⟨335, 0, 337, 55⟩ Bf) = some (.next, T8 w os, cE, ⟨341, 0, 470, 100⟩) := by
  rw [PySem.W.Fast.te10110043849684766642, PySem.W.Fast.te14364793385576792824]; kernel_rfl
noncomputable def sts8 : List Stmt := (body0.drop 43).take 5
theorem pc8 (w : World) (os : OsState) : segRunT treeTable prg w 11 (some (.ref 6)) 1 815 (T8 w os) (piecesOf sts8 env0 cE ⟨341, 0, 470, 100⟩ Bf) = some (.next, T9 w os, cE, ⟨548, 0, 548, 5⟩) := by
  rw [PySem.W.Fast.te10110043849684766642, PySem.W.Fast.te14364793385576792824]; kernel_rfl
noncomputable def sts9 : List Stmt := (body0.drop 48).take 8
theorem pc9 (w : World) (os : OsState) : segRunT treeTable prg w 11 (some (.ref 6)) 1 883 (T9 w os) (piecesOf sts9 env0 cE ⟨548, 0, 548, 5⟩ Bf) = some (.next, T10 w os, cE, ⟨656, 0, 679, 104⟩) := by
  rw [PySem.W.Fast.te10110043849684766642, PySem.W.Fast.te14364793385576792824]; kernel_rfl
theorem tfin (w : World) (os : OsState) : topRun treeTable prg w 11 (some (.ref 6)) 2 (T10 w os).abs ⟨doneF .next, cE, ⟨656, 0, 679, 104⟩, Bf⟩ = some (Sf w os) := by
  rw [PySem.W.Fast.te14082659384304107361, PySem.W.Fast.te14364793385576792824]; kernel_rfl
theorem bodyEq : bE = (sts1 ++ (sts2 ++ (sts3 ++ (sts4 ++ (sts5 ++ (sts6 ++ (sts7 ++ (sts8 ++ (sts9 ++ []))))))))) := by kernel_rfl
theorem tchain (w : World) (os : OsState) : topRun treeTable prg w 11 (some (.ref 6)) (930 + (564 + (195 + (619 + (718 + (975 + (992 + (815 + (883 + 2))))))))) (T1 w os).abs (restOf ((sts1 ++ (sts2 ++ (sts3 ++ (sts4 ++ (sts5 ++ (sts6 ++ (sts7 ++ (sts8 ++ (sts9 ++ [])))))))))) env0 cE ⟨0, 0, 0, 0⟩ Bf) = some (Sf w os) :=
  (piece_app (segRun_of (pc1 w os)) (piece_app (segRun_of (pc2 w os)) (piece_app (segRun_of (pc3 w os)) (piece_app (segRun_of (pc4 w os)) (piece_app (segRun_of (pc5 w os)) (piece_app (segRun_of (pc6 w os)) (piece_app (segRun_of (pc7 w os)) (piece_app (segRun_of (pc8 w os)) (piece_app (segRun_of (pc9 w os)) (piece_nil (tfin w os)))))))))))
theorem tall (w : World) (os : OsState) : topRun treeTable prg w 11 (some (.ref 6)) (12 + (1 + (930 + (564 + (195 + (619 + (718 + (975 + (992 + (815 + (883 + 2))))))))))) (S0 w os) (topStub prg) = some (Sf w os) :=
  go_top (tpre w os) (piece_block (tblock w os) (by rw [show restOf bE env0 cE _ Bf = _ from congrArg (fun l => restOf l env0 cE _ Bf) bodyEq]; exact tchain w os))
noncomputable def K (P : Params) : Frag := (nat_lit 0, PySem.W.boot_o_0 P) :: (nat_lit 1, PySem.W.boot_o_1 P) :: (nat_lit 2, PySem.W.boot_o_2 P) :: (nat_lit 3, o3v10 P) :: (nat_lit 4, PySem.W.boot_o_4 P) :: (nat_lit 5, PySem.W.boot_o_5 P) :: (nat_lit 6, PySem.W.boot_o_6 P) :: (nat_lit 9, PySem.W.boot_o_9 P) :: (nat_lit 13, o13 P) :: (nat_lit 20, o20 P) :: (nat_lit 21, o21 P) :: (nat_lit 24, o24 P) :: (nat_lit 27, o27 P) :: (nat_lit 29, o29 P) :: (nat_lit 35, o35 P) :: (nat_lit 36, o36 P) :: (nat_lit 37, o37 P) :: (nat_lit 38, o38 P) :: (nat_lit 39, o39v2 P) :: (nat_lit 40, o40 P) :: (nat_lit 45, o45 P) :: (nat_lit 48, o48 P) :: (nat_lit 50, o50 P) :: (nat_lit 51, o51 P) :: (nat_lit 52, o52 P) :: (nat_lit 57, o57 P) :: (nat_lit 60, o60 P) :: (nat_lit 67, o67 P) :: (nat_lit 68, o68 P) :: (nat_lit 69, o69 P) :: (nat_lit 70, o70 P) :: (nat_lit 71, o71 P) :: (nat_lit 76, o76 P) :: (nat_lit 79, o79 P) :: (nat_lit 81, o81 P) :: (nat_lit 82, o82 P) :: (nat_lit 83, o83 P) :: (nat_lit 88, o88 P) :: (nat_lit 91, o91 P) :: (nat_lit 93, o93 P) :: (nat_lit 99, o99 P) :: (nat_lit 100, o100 P) :: (nat_lit 101, o101 P) :: (nat_lit 102, o102 P) :: (nat_lit 103, o103 P) :: (nat_lit 106, o106 P) :: (nat_lit 107, o107 P) :: (nat_lit 110, o110 P) :: (nat_lit 113, o113 P) :: (nat_lit 115, o115 P) :: (nat_lit 121, o121 P) :: (nat_lit 122, o122 P) :: (nat_lit 128, o128 P) :: (nat_lit 129, o129 P) :: (nat_lit 130, o130 P) :: (nat_lit 136, o136 P) :: (nat_lit 137, o137 P) :: (nat_lit 143, o143 P) :: (nat_lit 144, o144 P) :: (nat_lit 150, o150 P) :: (nat_lit 151, o151 P) :: (nat_lit 157, o157 P) :: (nat_lit 158, o158 P) :: (nat_lit 164, o164 P) :: (nat_lit 165, o165 P) :: (nat_lit 171, o171 P) :: (nat_lit 172, o172 P) :: (nat_lit 178, o178 P) :: (nat_lit 179, o179 P) :: (nat_lit 180, o180 P) :: (nat_lit 181, o181 P) :: (nat_lit 182, o182 P) :: (nat_lit 183, o183 P) :: (nat_lit 184, o184 P) :: (nat_lit 190, o190 P) :: (nat_lit 191, o191 P) :: (nat_lit 197, o197 P) :: (nat_lit 198, o198 P) :: (nat_lit 204, o204 P) :: (nat_lit 205, o205 P) :: (nat_lit 211, o211 P) :: (nat_lit 212, o212 P) :: (nat_lit 215, o215 P) :: (nat_lit 218, o218 P) :: (nat_lit 225, o225 P) :: (nat_lit 226, o226 P) :: (nat_lit 227, o227 P) :: (nat_lit 233, o233 P) :: (nat_lit 234, o234 P) :: (nat_lit 240, o240 P) :: (nat_lit 241, o241 P) :: (nat_lit 247, o247 P) :: (nat_lit 248, o248 P) :: (nat_lit 254, o254 P) :: (nat_lit 255, o255 P) :: (nat_lit 256, o256 P) :: (nat_lit 262, o262 P) :: (nat_lit 263, o263 P) :: (nat_lit 264, o264 P) :: (nat_lit 265, o265 P) :: (nat_lit 266, o266 P) :: (nat_lit 267, o267 P) :: (nat_lit 268, o268 P) :: (nat_lit 273, o273 P) :: (nat_lit 276, o276 P) :: (nat_lit 278, o278 P) :: (nat_lit 284, o284 P) :: (nat_lit 285, o285 P) :: (nat_lit 286, o286 P) :: (nat_lit 292, o292 P) :: (nat_lit 293, o293 P) :: (nat_lit 294, o294 P) :: (nat_lit 298, o298 P) :: (nat_lit 299, o299 P) :: (nat_lit 300, o300 P) :: (nat_lit 301, o301 P) :: (nat_lit 302, o302 P) :: (nat_lit 303, o303 P) :: (nat_lit 304, o304 P) :: (nat_lit 309, o309 P) :: (nat_lit 312, o312 P) :: (nat_lit 319, o319 P) :: (nat_lit 320, o320 P) :: (nat_lit 326, o326 P) :: (nat_lit 327, o327 P) :: (nat_lit 333, o333 P) :: (nat_lit 334, o334 P) :: (nat_lit 335, o335 P) :: (nat_lit 341, o341 P) :: (nat_lit 342, o342 P) :: (nat_lit 348, o348 P) :: (nat_lit 349, o349 P) :: (nat_lit 355, o355 P) :: (nat_lit 356, o356 P) :: (nat_lit 362, o362 P) :: (nat_lit 363, o363 P) :: (nat_lit 369, o369 P) :: (nat_lit 370, o370 P) :: (nat_lit 376, o376 P) :: (nat_lit 377, o377 P) :: (nat_lit 383, o383 P) :: (nat_lit 384, o384 P) :: (nat_lit 390, o390 P) :: (nat_lit 391, o391 P) :: (nat_lit 392, o392 P) :: (nat_lit 398, o398 P) :: (nat_lit 399, o399 P) :: (nat_lit 405, o405 P) :: (nat_lit 406, o406 P) :: (nat_lit 412, o412 P) :: (nat_lit 413, o413 P) :: (nat_lit 419, o419 P) :: (nat_lit 420, o420 P) :: (nat_lit 426, o426 P) :: (nat_lit 427, o427 P) :: (nat_lit 433, o433 P) :: (nat_lit 434, o434 P) :: (nat_lit 438, o438 P) :: (nat_lit 439, o439 P) :: (nat_lit 445, o445 P) :: (nat_lit 446, o446 P) :: (nat_lit 450, o450 P) :: (nat_lit 451, o451 P) :: (nat_lit 452, o452 P) :: (nat_lit 453, o453 P) :: (nat_lit 454, o454 P) :: (nat_lit 455, o455 P) :: (nat_lit 456, o456 P) :: (nat_lit 459, o459 P) :: (nat_lit 465, o465 P) :: (nat_lit 466, o466 P) :: (nat_lit 472, o472 P) :: (nat_lit 473, o473 P) :: (nat_lit 476, o476 P) :: (nat_lit 479, o479 P) :: (nat_lit 481, o481 P) :: (nat_lit 487, o487 P) :: (nat_lit 488, o488 P) :: (nat_lit 494, o494 P) :: (nat_lit 495, o495 P) :: (nat_lit 501, o501 P) :: (nat_lit 502, o502 P) :: (nat_lit 508, o508 P) :: (nat_lit 509, o509 P) :: (nat_lit 515, o515 P) :: (nat_lit 516, o516 P) :: (nat_lit 522, o522 P) :: (nat_lit 523, o523 P) :: (nat_lit 529, o529 P) :: (nat_lit 530, o530 P) :: (nat_lit 536, o536 P) :: (nat_lit 537, o537 P) :: (nat_lit 543, o543 P) :: (nat_lit 544, o544 P) :: (nat_lit 550, o550 P) :: (nat_lit 551, o551 P) :: (nat_lit 557, o557 P) :: (nat_lit 558, o558 P) :: (nat_lit 564, o564 P) :: (nat_lit 565, o565 P) :: (nat_lit 571, o571 P) :: (nat_lit 572, o572 P) :: (nat_lit 578, o578 P) :: (nat_lit 579, o579 P) :: (nat_lit 585, o585 P) :: (nat_lit 586, o586 P) :: (nat_lit 592, o592 P) :: (nat_lit 593, o593 P) :: (nat_lit 599, o599 P) :: (nat_lit 600, o600 P) :: (nat_lit 606, o606 P) :: (nat_lit 607, o607 P) :: (nat_lit 613, o613 P) :: (nat_lit 614, o614 P) :: (nat_lit 620, o620 P) :: (nat_lit 621, o621 P) :: (nat_lit 625, o625 P) :: (nat_lit 626, o626 P) :: (nat_lit 632, o632 P) :: (nat_lit 633, o633 P) :: (nat_lit 639, o639 P) :: (nat_lit 640, o640 P) :: (nat_lit 641, o641 P) :: (nat_lit 642, o642 P) :: (nat_lit 643, o643 P) :: (nat_lit 644, o644 P) :: (nat_lit 645, o645 P) :: (nat_lit 650, o650 P) :: (nat_lit 653, o653 P) :: (nat_lit 660, o660 P) :: (nat_lit 661, o661 P) :: (nat_lit 667, o667 P) :: (nat_lit 668, o668 P) :: (nat_lit 674, o674 P) :: (nat_lit 675, o675 P) :: (nat_lit 681, o681 P) :: (nat_lit 682, o682 P) :: (nat_lit 683, o683 P) :: (nat_lit 684, o684 P) :: (nat_lit 685, o685 P) :: (nat_lit 686, o686 P) :: (nat_lit 687, o687 P) :: (nat_lit 692, o692 P) :: (nat_lit 695, o695 P) :: (nat_lit 702, o702 P) :: (nat_lit 703, o703 P) :: (nat_lit 709, o709 P) :: (nat_lit 710, o710 P) :: (nat_lit 716, o716 P) :: (nat_lit 717, o717 P) :: (nat_lit 718, o718 P) :: (nat_lit 724, o724 P) :: (nat_lit 725, o725 P) :: (nat_lit 726, o726 P) :: (nat_lit 732, o732 P) :: (nat_lit 733, o733 P) :: (nat_lit 739, o739 P) :: (nat_lit 740, o740 P) :: (nat_lit 746, o746 P) :: (nat_lit 747, o747 P) :: (nat_lit 748, o748 P) :: (nat_lit 749, o749 P) :: (nat_lit 750, o750 P) :: (nat_lit 751, o751 P) :: (nat_lit 752, o752 P) :: (nat_lit 757, o757 P) :: (nat_lit 760, o760 P) :: (nat_lit 762, o762 P) :: (nat_lit 768, o768 P) :: (nat_lit 769, o769 P) :: (nat_lit 775, o775 P) :: (nat_lit 776, o776 P) :: (nat_lit 782, o782 P) :: (nat_lit 783, o783 P) :: (nat_lit 789, o789 P) :: (nat_lit 790, o790 P) :: (nat_lit 796, o796 P) :: (nat_lit 797, o797 P) :: (nat_lit 803, o803 P) :: (nat_lit 804, o804 P) :: (nat_lit 810, o810 P) :: (nat_lit 811, o811 P) :: (nat_lit 817, o817 P) :: (nat_lit 818, o818 P) :: (nat_lit 824, o824 P) :: (nat_lit 825, o825 P) :: (nat_lit 831, o831 P) :: (nat_lit 832, o832 P) :: (nat_lit 838, o838 P) :: (nat_lit 839, o839 P) :: (nat_lit 845, o845 P) :: (nat_lit 846, o846 P) :: (nat_lit 852, o852 P) :: (nat_lit 853, o853 P) :: (nat_lit 859, o859 P) :: (nat_lit 860, o860 P) :: (nat_lit 866, o866 P) :: (nat_lit 867, o867 P) :: (nat_lit 868, o868 P) :: (nat_lit 869, o869 P) :: (nat_lit 870, o870 P) :: (nat_lit 871, o871 P) :: (nat_lit 872, o872 P) :: (nat_lit 880, o880 P) :: (nat_lit 881, o881 P) :: (nat_lit 887, o887 P) :: (nat_lit 888, o888 P) :: (nat_lit 894, o894 P) :: (nat_lit 895, o895 P) :: (nat_lit 901, o901 P) :: (nat_lit 902, o902 P) :: (nat_lit 906, o906 P) :: (nat_lit 907, o907 P) :: (nat_lit 911, o911 P) :: (nat_lit 912, o912 P) :: []
noncomputable def Kas : List Addr := [0, 1, 2, 3, 4, 5, 6, 9, 13, 20, 21, 24, 27, 29, 35, 36, 37, 38, 39, 40, 45, 48, 50, 51, 52, 57, 60, 67, 68, 69, 70, 71, 76, 79, 81, 82, 83, 88, 91, 93, 99, 100, 101, 102, 103, 106, 107, 110, 113, 115, 121, 122, 128, 129, 130, 136, 137, 143, 144, 150, 151, 157, 158, 164, 165, 171, 172, 178, 179, 180, 181, 182, 183, 184, 190, 191, 197, 198, 204, 205, 211, 212, 215, 218, 225, 226, 227, 233, 234, 240, 241, 247, 248, 254, 255, 256, 262, 263, 264, 265, 266, 267, 268, 273, 276, 278, 284, 285, 286, 292, 293, 294, 298, 299, 300, 301, 302, 303, 304, 309, 312, 319, 320, 326, 327, 333, 334, 335, 341, 342, 348, 349, 355, 356, 362, 363, 369, 370, 376, 377, 383, 384, 390, 391, 392, 398, 399, 405, 406, 412, 413, 419, 420, 426, 427, 433, 434, 438, 439, 445, 446, 450, 451, 452, 453, 454, 455, 456, 459, 465, 466, 472, 473, 476, 479, 481, 487, 488, 494, 495, 501, 502, 508, 509, 515, 516, 522, 523, 529, 530, 536, 537, 543, 544, 550, 551, 557, 558, 564, 565, 571, 572, 578, 579, 585, 586, 592, 593, 599, 600, 606, 607, 613, 614, 620, 621, 625, 626, 632, 633, 639, 640, 641, 642, 643, 644, 645, 650, 653, 660, 661, 667, 668, 674, 675, 681, 682, 683, 684, 685, 686, 687, 692, 695, 702, 703, 709, 710, 716, 717, 718, 724, 725, 726, 732, 733, 739, 740, 746, 747, 748, 749, 750, 751, 752, 757, 760, 762, 768, 769, 775, 776, 782, 783, 789, 790, 796, 797, 803, 804, 810, 811, 817, 818, 824, 825, 831, 832, 838, 839, 845, 846, 852, 853, 859, 860, 866, 867, 868, 869, 870, 871, 872, 880, 881, 887, 888, 894, 895, 901, 902, 906, 907, 911, 912]
theorem Kas_eq : ∀ P, Kas = (K P).map (·.1) := fun P => by kernel_rfl
noncomputable abbrev Hk : Hook := kHook K Kas Kas_eq
noncomputable def qv : Program := { prg with main := { prg.main with body := [at1 55] } }
noncomputable def looseN : List Str := [Str.ofString "_wall", Str.ofString "BoardError", Str.ofString "BadArgument", Str.ofString "BadAddress", Str.ofString "NoRoom", Str.ofString "Trap", Str.ofString "ENTRY", Str.ofString "VALID", Str.ofString "READ", Str.ofString "WRITE", Str.ofString "EXECUTE", Str.ofString "USER", Str.ofString "ACCESSED", Str.ofString "DIRTY", Str.ofString "LEAF", Str.ofString "FLAG_BITS", Str.ofString "FLAGS", Str.ofString "FLAG_NAMES", Str.ofString "DIGITS", Str.ofString "FETCH", Str.ofString "LOAD", Str.ofString "STORE", Str.ofString "PAGE_FAULTS", Str.ofString "ACCESS_FAULTS", Str.ofString "USER_MODE", Str.ofString "Layout", Str.ofString "eight_digits", Str.ofString "is_leaf", Str.ofString "is_sound", Str.ofString "may", Str.ofString "Walker", Str.ofString "Quick", Str.ofString "Tables", Str.ofString "WORD", Str.ofString "MASK", Str.ofString "SPACE", Str.ofString "SIZES", Str.ofString "need_size", Str.ofString "need_stretch", Str.ofString "Memory", Str.ofString "Rom", Str.ofString "Bus", Str.ofString "TAKEN", Str.ofString "FREED", Str.ofString "Pages", Str.ofString "_law_place", Str.ofString "_law_store", Str.ofString "_law_stood", Str.ofString "_law_deed_right", Str.ofString "_law_page_right"]
noncomputable def Xt0 : Shared → Bool := fun s => xlAt qv [] s && recOk (RowW.records (OpenRow.toRowW (OpenLaw.row PySem.Challenge.rw_pf0221_01))) s
theorem topen : ∀ w : World, (fencedOpening treeTable prg w 13490).map (fun s => (s.heap, s.gens, s.drawn, s.toks)) = some (boot_heap w.params, Array.mk [], boot_drawn, boot_toks) :=
  boot_open (by kernel_rfl) (by decide) (fun s => by kernel_rfl)
theorem tsize (w : World) : ((boot_heap w.params).isNs mainGlobals && (Array.mk [] : Array GenState).size == 0, (boot_heap w.params).objs.size, (boot_heap w.params).nsMap mainGlobals "__annotations__") = (true, 11, (some (.ref 6))) := by
  rw [PySem.W.Fast.te8920871248978507458]; kernel_rfl
theorem tlooks1 (w : World) : (fun os => (staticsOk (importedModules prg.main.body) (boot_heap w.params) (H1 w.params) && namesBound prg (H1 w.params) && gensDone (Sf w os) && laidKept (boot_heap w.params) (H1 w.params))) = fun _ => true := by
  rw [PySem.W.Fast.te5923862056798008813]; kernel_rfl
theorem tlooks2 (w : World) : (fun os => openSeen qv looseN (importedModules prg.main.body) Xt0 true (Sf w os)) = fun _ => openGood qv looseN := by
  rw [PySem.W.Fast.te4187177175401517315, PySem.W.Fast.te5923862056798008813]; kernel_rfl
theorem tlooks3 (w : World) : (fun os => Hk.obs (Sf w os)) = fun _ => Hk.val w := by kernel_rfl
theorem tlooks (w : World) : (fun os => ((staticsOk (importedModules prg.main.body) (boot_heap w.params) (H1 w.params) && namesBound prg (H1 w.params) && gensDone (Sf w os) && laidKept (boot_heap w.params) (H1 w.params)), openSeen qv looseN (importedModules prg.main.body) Xt0 true (Sf w os), Hk.obs (Sf w os))) = fun _ => (true, openGood qv looseN, Hk.val w) :=
  funext fun os => Prod.ext (congrFun (tlooks1 w) os) (Prod.ext (congrFun (tlooks2 w) os) (congrFun (tlooks3 w) os))
theorem tleft : LeftO prg qv looseN Xt0 Hk.obs Hk.val 13490 :=
  LeftO.of_pieces (H₀ := boot_heap) (H₁ := H1) topen tsize tall (by decide) tlooks
theorem wsaid : OpenLaw.wellSaid PySem.Challenge.rw_pf0221_01 = true := by rw [PySem.W.Fast.te9446332074065402090]; kernel_rfl
noncomputable def dLaw : DefRec := ⟨"law", fnA (at1 55), fnB (at1 55), fnS (at1 55), match at1 55 with | .FunctionDef (pos := p) .. => p | _ => ⟨0, 0, 0, 0⟩⟩
set_option maxHeartbeats 4000000
-- plain facts about lists of pairs
theorem va_cons {K : Type} [DecidableEq K] (kv : K × Value) (l : List (K × Value)) (x : K) : valueAt (kv :: l) x = if kv.1 = x then some kv.2 else valueAt l x := by
  unfold valueAt
  by_cases h : kv.1 = x <;> simp [h]
theorem va_map {K : Type} [DecidableEq K] (k : K) (v : Value) (x : K) : ∀ l : List (K × Value), valueAt (l.map fun kv => if kv.1 = k then (kv.1, v) else kv) x = if x = k then (if (l.any fun kv => decide (kv.1 = k)) then some v else none) else valueAt l x
  | [] => by by_cases h : x = k <;> simp [valueAt, h]
  | kv :: l => by
    rw [List.map_cons, va_cons, va_map k v x l, va_cons]
    by_cases h1 : kv.1 = k
    · by_cases h2 : x = k
      · subst h2; simp [h1]
      · have h3 : ¬ k = x := fun e => h2 e.symm
        have h4 : ¬ kv.1 = x := fun e => h2 (e.symm.trans h1)
        simp [h1, h2, h3]
    · by_cases h2 : x = k
      · subst h2; simp only [if_neg h1, if_true, List.any_cons, decide_eq_false h1, Bool.false_or]
      · simp [h1, h2]
theorem va_append {K : Type} [DecidableEq K] (k : K) (v : Value) (x : K) : ∀ l : List (K × Value), valueAt (l ++ [(k, v)]) x = (valueAt l x).or (if x = k then some v else none)
  | [] => by
    rw [List.nil_append, va_cons]
    by_cases h : k = x
    · subst h; simp [valueAt]
    · have h' : ¬ x = k := fun e => h e.symm
      simp [valueAt, h, h']
  | kv :: l => by
    rw [List.cons_append, va_cons, va_cons, va_append k v x l]
    by_cases h : kv.1 = x <;> simp [h]
theorem va_any {K : Type} [DecidableEq K] (k : K) : ∀ l : List (K × Value), (l.any fun kv => decide (kv.1 = k)) = (valueAt l k).isSome
  | [] => rfl
  | kv :: l => by
    rw [List.any_cons, va_cons, va_any k l]
    by_cases h : kv.1 = k <;> simp [h]
theorem va_stored {K : Type} [DecidableEq K] (l : List (K × Value)) (k : K) (v : Value) (x : K) : valueAt (stored l k v) x = if x = k then some v else valueAt l x := by
  unfold stored
  by_cases h : (l.any fun kv => decide (kv.1 = k)) = true
  · rw [if_pos h, va_map]
    by_cases hx : x = k
    · simp only [if_pos hx, if_pos h]
    · simp only [if_neg hx]
  · rw [if_neg h, va_append]
    by_cases hx : x = k
    · subst hx
      rw [va_any] at h
      cases e : valueAt l x with
      | none => simp
      | some y => rw [e] at h; simp at h
    · simp only [if_neg hx, Option.or_none]
theorem va_without {K : Type} [DecidableEq K] (k x : K) : ∀ l : List (K × Value), valueAt (without l k) x = if x = k then none else valueAt l x
  | [] => by by_cases h : x = k <;> simp [without, valueAt, h]
  | kv :: l => by
    have ih := va_without k x l
    unfold without at ih ⊢
    by_cases h1 : kv.1 = k
    · rw [List.filter_cons_of_neg (by simp [h1]), ih, va_cons]
      by_cases h2 : x = k
      · simp [h2]
      · have h3 : ¬ k = x := fun e => h2 e.symm
        simp [h1, h2, h3]
    · rw [List.filter_cons_of_pos (by simp [h1]), va_cons, ih, va_cons]
      by_cases h2 : kv.1 = x
      · have h3 : ¬ x = k := fun e => h1 (h2.trans e)
        simp [h2, h3]
      · simp [h2]
theorem len_range : ∀ (n : Nat) (l : List Int), l.Nodup → (∀ x ∈ l, 0 ≤ x ∧ x < (n : Int)) → l.length ≤ n
  | 0, l, _, h => by
    cases l with
    | nil => exact Nat.le_refl _
    | cons x r => have := h x (.head _); omega
  | n + 1, l, nd, h => by
    by_cases hm : (n : Int) ∈ l
    · have h1 := len_range n (l.erase (n : Int)) (nd.erase _) fun x hx => by
        have := (List.Nodup.mem_erase_iff nd).mp hx
        have h2 := h x this.2
        have h3 : x ≠ (n : Int) := this.1
        omega
      rw [List.length_erase_of_mem hm] at h1
      omega
    · have h1 := len_range n l nd fun x hx => by
        have h2 := h x hx
        have h3 : x ≠ (n : Int) := fun e => hm (e ▸ hx)
        omega
      omega

/-- a dict of ints under ints from 0 up to 255; a key that is not there counts as 0 -/
def IntD (w : World) (o : Obj) (f : Int → Int) : Prop :=
  ∃ kvs : List (Int × Value), o.IsDictOf (intKind PySem.Challenge.rw_pf0221_01.prog w) kvs ∧ (∀ k, match valueAt kvs k with | some v => ∃ t, v = .int (f k) t | none => f k = 0) ∧ ∀ p ∈ kvs, 0 ≤ p.1 ∧ p.1 < 256
def put (f : Int → Int) (k v : Int) : Int → Int := fun x => if x = k then v else f x

theorem IntD.len {w : World} {o : Obj} {kvs : List (Int × Value)} (h : o.IsDictOf (intKind PySem.Challenge.rw_pf0221_01.prog w) kvs) (r : ∀ p ∈ kvs, 0 ≤ p.1 ∧ p.1 < 256) : kvs.length ≤ sizeLine := by
  obtain ⟨_, _, _, _, _, _, nd⟩ := h
  have := len_range 256 (kvs.map (·.1)) nd fun x hx => by
    obtain ⟨p, hp, rfl⟩ := List.mem_map.mp hx
    exact r p hp
  rw [List.length_map] at this
  rw [sizeLine_eq]; omega

section
variable {w : World} {A : Around} {E : Value → Shared → Prop} {s : Shared} {h₀ : Heap} {L d : Addr} {m : Str → Option Value} {news : List (Addr × Obj)} {g : Obj → List (Addr × Obj)} {o : Obj} {f : Int → Int}
theorem intd_getm {pl : Sem Bool} {Q : Value × List Value → Shared → Prop} (N : News h₀ L s.heap news) (hp : (d, o) ∈ news) (hd : IntD w o f) (h : Q (.builtin "dict.get", [.ref d]) s) :
    wpAny (model PySem.Challenge.rw_pf0221_01.prog w) A (getMethod (.ref d) "get" pl) Q E s :=
  let ⟨_, h1, _⟩ := hd
  kob_method PySem.F.slot_dict_get PySem.F.type_dict_get N hp h1 h
theorem intd_popm {pl : Sem Bool} {Q : Value × List Value → Shared → Prop} (N : News h₀ L s.heap news) (hp : (d, o) ∈ news) (hd : IntD w o f) (h : Q (.builtin "dict.pop", [.ref d]) s) :
    wpAny (model PySem.Challenge.rw_pf0221_01.prog w) A (getMethod (.ref d) "pop" pl) Q E s :=
  let ⟨_, h1, _⟩ := hd
  kob_method PySem.F.slot_dict_pop PySem.F.type_dict_pop N hp h1 h
theorem intd_get {k : Int} {t u : Tok} {Q : Value → Shared → Prop} (N : News h₀ L s.heap news) (hp : (d, o) ∈ news) (hd : IntD w o f) (lo : (d == sysModules) = false)
    (h : ∀ t', Q (.int (f k) t') { s with toks := s.toks + 1 }) :
    wpAny (model PySem.Challenge.rw_pf0221_01.prog w) A (call (.builtin "dict.get") [.ref d, .int k t, .int 0 u]) Q E s := by
  obtain ⟨kvs, h1, h2, _⟩ := hd
  have hD := kda_dict N hp h1
  refine call_meetsIn PySem.F.slot_dict_get hD.typeIs PySem.F.entry_dict_get (PySem.F.args_dict_get_3 _ _ _) (meets_dict_get_default (intKind _ w) d (intKind_is _ _ k t) lo _) ⟨_, hD.mapOf, ?_⟩
  have := h2 k
  cases e : valueAt kvs k with
  | none => rw [e] at this; exact this ▸ h u
  | some v => rw [e] at this; obtain ⟨t', rfl⟩ := this; exact h t'
theorem IntD.put {kvs : List (Int × Value)} {o' : Obj} {k v : Int} {t : Tok} (h2 : ∀ k, match valueAt kvs k with | some v => ∃ t, v = .int (f k) t | none => f k = 0) (h3 : ∀ p ∈ kvs, 0 ≤ p.1 ∧ p.1 < 256) (h0 : 0 ≤ k) (h1 : k < 256)
    (hd : o'.IsDictOf (intKind PySem.Challenge.rw_pf0221_01.prog w) (stored kvs k (.int v t))) : IntD w o' (Mine.put f k v) := by
  refine ⟨_, hd, fun x => ?_, fun p hp => ?_⟩
  · rw [va_stored]
    unfold Mine.put
    by_cases e : x = k
    · simp only [if_pos e]; exact ⟨t, rfl⟩
    · simp only [if_neg e]; exact h2 x
  · unfold stored at hp
    split at hp
    · obtain ⟨q, hq, rfl⟩ := List.mem_map.mp hp
      have := h3 q hq
      by_cases e : q.1 = k
      · simp only [if_pos e]; omega
      · simp only [if_neg e]; exact this
    · rcases List.mem_append.mp hp with hp | hp
      · exact h3 p hp
      · rw [List.mem_singleton.mp hp]; exact ⟨h0, h1⟩
theorem intd_set {k v : Int} {t u : Tok} {Q : Unit → Shared → Prop} (F : Fr h₀ L s.heap m) (N : News h₀ L s.heap news) (U : UpdF d o news g) (hd : IntD w o f) (h0 : 0 ≤ k) (h1 : k < 256)
    (h : ∀ h' o', Fr h₀ L h' m → News h₀ L h' (g o') → IntD w o' (put f k v) → Q () { s with heap := h', toks := s.toks + 1 }) :
    wpAny (model PySem.Challenge.rw_pf0221_01.prog w) A (setItem (.ref d) (.int k t) (.int v u)) Q E s := by
  obtain ⟨kvs, i1, i2, i3⟩ := hd
  exact kda_set (knd := intKind _ w) F N U i1 (intKind_is _ _ k t) (IntD.len i1 i3) fun h' o' F' N' hd' => h h' o' F' N' (IntD.put i2 i3 h0 h1 hd')
theorem intd_pop {k : Int} {t : Tok} {Q : Value → Shared → Prop} (F : Fr h₀ L s.heap m) (N : News h₀ L s.heap news) (U : UpdF d o news g) (hd : IntD w o f) (lo : (d == sysModules) = false)
    (h : ∀ r h' o', Fr h₀ L h' m → News h₀ L h' (g o') → IntD w o' (put f k 0) → Q r { s with heap := h', toks := s.toks + 1 }) :
    wpAny (model PySem.Challenge.rw_pf0221_01.prog w) A (call (.builtin "dict.pop") [.ref d, .int k t, .none]) Q E s := by
  obtain ⟨kvs, i1, i2, i3⟩ := hd
  cases e : valueAt kvs k with
  | some v =>
    refine kob_pop (knd := intKind _ w) (more := [.none]) F N U i1 (intKind_is _ _ k t) (.inr ⟨_, rfl⟩) (by rfl) (PySem.F.args_dict_pop_3 _ _ _) e (IntD.len i1 i3) fun h' o' F' N' hd' => h v h' o' F' N' ⟨_, hd', fun x => ?_, fun p hp => i3 p (List.mem_filter.mp hp).1⟩
    rw [va_without]
    unfold put
    by_cases q : x = k
    · simp only [if_pos q]
    · simp only [if_neg q]; exact i2 x
  | none =>
    obtain ⟨pre, post, rfl, hg, a, b⟩ := U.split
    have hD := kda_dict N (List.mem_append_right _ (.head _)) i1
    refine call_meetsIn PySem.F.slot_dict_pop hD.typeIs PySem.F.entry_dict_pop (PySem.F.args_dict_pop_3 _ _ _) (meets_dict_pop_default (intKind _ w) d (intKind_is _ _ k t) lo (by rfl) _) ⟨kvs, hD, e, ?_⟩
    refine h .none s.heap o F (hg o ▸ N) ⟨kvs, i1, fun x => ?_, i3⟩
    have := i2 x
    unfold put
    by_cases q : x = k
    · subst q; rw [e] at this ⊢; simp
    · simp only [if_neg q]; exact this
end
theorem reg : ∀ (w : World) (h : Heap), (K w.params).In h → PySem.Challenge.rw_pf0221_01.prog = PySem.Challenge.rw_pf0221_01.prog := by
  k_fill
  intros; rfl
local macro_rules | `(tactic| walk_at "execs cons") => `(tactic| (k_here; k_extra "tok"))
local macro_rules | `(tactic| walk_at "execs nil") => `(tactic| (k_here; k_extra "tok"))
theorem tok_gen {M : Model} {A : Around} {α : Type} {t : Sem α} {Q : α → Shared → Prop} {E : Value → Shared → Prop} {h : Heap} {g : Array GenState} {d : Drawn} {X : Nat} {o : OsState} (hh : ∀ tk, wpAny M A t Q E { heap := h, gens := g, drawn := d, toks := tk, os := o }) : wpAny M A t Q E { heap := h, gens := g, drawn := d, toks := X, os := o } := hh X
theorem u_tok : True := by (k_with "tok" => ((with_reducible show wpAny _ _ _ _ _ (Shared.mk _ _ _ (_ + _) _)); refine tok_gen ?_; intro tk; try dsimp only)); trivial
-- operations on ints, in the words of omega
section
variable {prog : Program} {w : World} {A : Around} {E : Value → Shared → Prop} {s : Shared} {Q : Value → Shared → Prop} {a b : Int} {t u : Tok}
theorem mod_e (hb : 0 < b) (h : Q (.int (a % b) s.toks) { s with toks := s.toks + 1 }) : wpAny (model prog w) A (binaryOp .Mod (.int a t) (.int b u)) Q E s :=
  mod_int (by omega) (by rw [Int.fmod_eq_emod_of_nonneg a (by omega)]; exact h)
theorem div_e (hb : 0 < b ∧ b < 1000000) (h0 : 0 ≤ a) (h1 : a < 2 ^ 62) (h : Q (.int (a / b) s.toks) { s with toks := s.toks + 1 }) : wpAny (model prog w) A (binaryOp .FloorDiv (.int a t) (.int b u)) Q E s :=
  floordiv_int (by omega) (by rw [Int.fdiv_eq_ediv_of_nonneg a (by omega)]; exact h) (.inl (PyProof.noPylong_small (by omega)))
theorem shr2 (h : Q (.int (a / 4) s.toks) { s with toks := s.toks + 1 }) : wpAny (model prog w) A (binaryOp .RShift (.int a t) (.int 2 u)) Q E s :=
  rshift_int (by decide) (by show Q (.int (a.fdiv 4) _) _; rw [Int.fdiv_eq_ediv_of_nonneg a (by omega)]; exact h)
theorem shr4 (h : Q (.int (a / 16) s.toks) { s with toks := s.toks + 1 }) : wpAny (model prog w) A (binaryOp .RShift (.int a t) (.int 4 u)) Q E s :=
  rshift_int (by decide) (by show Q (.int (a.fdiv 16) _) _; rw [Int.fdiv_eq_ediv_of_nonneg a (by omega)]; exact h)
theorem shr10 (h : Q (.int (a / 1024) s.toks) { s with toks := s.toks + 1 }) : wpAny (model prog w) A (binaryOp .RShift (.int a t) (.int 10 u)) Q E s :=
  rshift_int (by decide) (by show Q (.int (a.fdiv 1024) _) _; rw [Int.fdiv_eq_ediv_of_nonneg a (by omega)]; exact h)
theorem shl2 (h0 : 0 ≤ a) (h1 : a < 2 ^ 60) (h : Q (.int (a * 4) s.toks) { s with toks := s.toks + 1 }) : wpAny (model prog w) A (binaryOp .LShift (.int a t) (.int 2 u)) Q E s :=
  lshift_int_small (by decide) (by decide) (by omega) h
theorem shl4 (h0 : 0 ≤ a) (h1 : a < 2 ^ 60) (h : Q (.int (a * 16) s.toks) { s with toks := s.toks + 1 }) : wpAny (model prog w) A (binaryOp .LShift (.int a t) (.int 4 u)) Q E s :=
  lshift_int_small (by decide) (by decide) (by omega) h
theorem shl10 (h0 : 0 ≤ a) (h1 : a < 2 ^ 60) (h : Q (.int (a * 1024) s.toks) { s with toks := s.toks + 1 }) : wpAny (model prog w) A (binaryOp .LShift (.int a t) (.int 10 u)) Q E s :=
  lshift_int_small (by decide) (by decide) (by omega) h
end
-- bits
theorem bor_nn {x y : Int} (hx : 0 ≤ x) (hy : 0 ≤ y) : Builtin.bitOr x y = ((x.toNat ||| y.toNat : Nat) : Int) := by
  rw [bitOr_and, bitAnd_pp hx hy]
  have := nat_or_add_and x.toNat y.toNat
  omega
theorem and_low (k f c d : Nat) (hd : d < 2 ^ k) : (2 ^ k * f + c) &&& d = c &&& d := by
  apply Nat.eq_of_testBit_eq
  intro i
  rw [Nat.testBit_and, Nat.testBit_and]
  by_cases h : i < k
  · have : (2 ^ k * f + c).testBit i = c.testBit i := by
      have e : ∀ x : Nat, x.testBit i = (x % 2 ^ k).testBit i := fun x => by rw [Nat.testBit_mod_two_pow]; simp [h]
      rw [e (2 ^ k * f + c), e c, Nat.mul_add_mod]
    rw [this]
  · have : d.testBit i = false := Nat.testBit_lt_two_pow (Nat.lt_of_lt_of_le hd (Nat.pow_le_pow_right (by decide) (by omega)))
    rw [this, Bool.and_false, Bool.and_false]
theorem band_low {f c d : Int} (hf : 0 ≤ f) (hc : 0 ≤ c) (hd : 0 ≤ d) (h : d < 1024) : Builtin.bitAnd (1024 * f + c) d = Builtin.bitAnd c d := by
  rw [bitAnd_pp (by omega) hd, bitAnd_pp hc hd]
  have e : (1024 * f + c).toNat = 2 ^ 10 * f.toNat + c.toNat := by omega
  rw [e, and_low 10 _ _ _ (by omega)]
theorem bor_low {f c d : Int} (hf : 0 ≤ f) (hc : 0 ≤ c) (hd : 0 ≤ d) (h : d < 1024) : Builtin.bitOr (1024 * f + c) d = 1024 * f + Builtin.bitOr c d := by
  rw [bitOr_and, bitOr_and, band_low hf hc hd h]; omega
theorem bor_16 {f d : Int} (hf : 0 ≤ f) (hd : 0 ≤ d) (h : d < 16) : Builtin.bitOr (16 * f) d = 16 * f + d := by
  rw [bitOr_and, bitAnd_pp (by omega) hd]
  have e : (16 * f).toNat = 2 ^ 4 * f.toNat + 0 := by omega
  rw [e, and_low 4 _ _ _ (by omega)]
  simp
theorem band_not15 (x : Int) : Builtin.bitAnd x (Builtin.bitNot 15) = x - x % 16 := by rw [bitAnd_not, bitAnd_m4]
section
variable {prog : Program} {w : World} {A : Around} {E : Value → Shared → Prop} {s : Shared} {Q : Value → Shared → Prop} {a b : Int} {t u : Tok}
theorem and1 (h : Q (.int (a % 2) s.toks) { s with toks := s.toks + 1 }) : wpAny (model prog w) A (binaryOp .BitAnd (.int a t) (.int 1 u)) Q E s := and_int (by rw [bitAnd_m1]; exact h)
theorem and3 (h : Q (.int (a % 4) s.toks) { s with toks := s.toks + 1 }) : wpAny (model prog w) A (binaryOp .BitAnd (.int a t) (.int (4 - 1) u)) Q E s := and_int (by show Q (.int (Builtin.bitAnd a 3) _) _; rw [bitAnd_m2]; exact h)
theorem and15 (h : Q (.int (a % 16) s.toks) { s with toks := s.toks + 1 }) : wpAny (model prog w) A (binaryOp .BitAnd (.int a t) (.int (16 - 1) u)) Q E s := and_int (by show Q (.int (Builtin.bitAnd a 15) _) _; rw [bitAnd_m4]; exact h)
end
theorem of_allLt {d : Addr} : ∀ {l : List (Addr × Obj)}, AllLt d l → ∀ p ∈ l, p.1 < d
  | [], _ => fun _ h => nomatch h
  | q :: l, h => fun p hp => by
    rcases List.mem_cons.mp hp with rfl | hp
    · exact h.1
    · exact of_allLt h.2 p hp
theorem bor_1024 {f d : Int} (hf : 0 ≤ f) (hd : 0 ≤ d) (h : d < 1024) : Builtin.bitOr (f * 1024) d = 1024 * f + d := by
  rw [show f * 1024 = 1024 * f + 0 by omega, bor_low hf (by decide) hd h, bitOr_and, bitAnd_comm, bitAnd_zero]; omega
theorem look {M : Int → Int} {j i e : Int} (h : M j = e) (hj : i = j) : M i = e := hj ▸ h
theorem ne_of_allLe {d e : Addr} {l : List (Addr × Obj)} (h : AllLt d l) (hd : @LE.le Nat _ d e) : ∀ p ∈ l, p.1 ≠ e := fun p hp => Nat.ne_of_lt (Nat.lt_of_lt_of_le (of_allLt h p hp) hd)
theorem ne_of_allLt {d : Addr} {l : List (Addr × Obj)} (h : AllLt d l) : ∀ p ∈ l, p.1 ≠ d := fun p hp => Nat.ne_of_lt (of_allLt h p hp)
local macro_rules | `(tactic| k_all) => `(tactic| first | assumption | (refine ne_of_allLt ?_; first | assumption | (apply And.right; first | assumption | (apply And.right; first | assumption | (apply And.right; first | assumption | (apply And.right; first | assumption | (apply And.right; first | assumption | (apply And.right; first | assumption | (apply And.right; first | assumption | (apply And.right; first | assumption | (apply And.right; assumption)))))))))) | (apply ne_of_allLe; (first | assumption | (apply And.right; first | assumption | (apply And.right; first | assumption | (apply And.right; first | assumption | (apply And.right; first | assumption | (apply And.right; first | assumption | (apply And.right; first | assumption | (apply And.right; first | assumption | (apply And.right; first | assumption | (apply And.right; assumption)))))))))); omega))
local macro_rules | `(tactic| k_mem) => `(tactic| first | assumption | exact List.mem_cons_self | (refine List.mem_cons_of_mem _ ?_; k_mem))
local macro_rules | `(tactic| walk_at "ite") => `(tactic| (k_here; first | (refine ite_pos (by k_extra "dec") ?_) | (refine ite_neg (by k_extra "dec") ?_)))
local macro_rules | `(tactic| walk_at "getMethod ref") => `(tactic| (k_here; k_extra "gm"))
local macro_rules | `(tactic| walk_at "call builtin:dict.get") => `(tactic| (k_here; k_extra "dget"))
local macro_rules | `(tactic| walk_at "call builtin:dict.pop") => `(tactic| (k_here; k_extra "dpop"))
local macro_rules | `(tactic| walk_at "setItem ref int") => `(tactic| (k_here; k_extra "seti"))
local macro_rules | `(tactic| walk_at "binaryOp Mod int int") => `(tactic| k_extra "mod")
local macro_rules | `(tactic| walk_at "binaryOp FloorDiv int int") => `(tactic| k_extra "div")
local macro_rules | `(tactic| walk_at "binaryOp RShift int int") => `(tactic| k_extra "shr")
local macro_rules | `(tactic| walk_at "binaryOp LShift int int") => `(tactic| k_extra "shl")
local macro_rules | `(tactic| walk_at "call ref") => `(tactic| (k_here; k_extra "ctr"))
local macro_rules | `(tactic| walk_at "binaryOp BitAnd int int") => `(tactic| k_extra "band")
theorem u_words : True := by
  (k_with "subn" => (intro p9 hp9 hn9; repeat (first | assumption | apply List.mem_cons_of_mem)))
  (k_with "dec" => ((try simp only [ne_eq, bne_iff_ne, beq_iff_eq, decide_eq_true_eq, Bool.and_eq_true, Bool.or_eq_true, Bool.not_eq_true', bne_eq_false_iff_eq, beq_eq_false_iff_ne, Bool.not_eq_true, decide_eq_false_iff_not]); omega))
  (k_with "enter" => (refine wpAny_call ?_; k_dflt (refine' code_def ?k1 ?k2 ?k3 ?k4 ?k5 ?kA ?kF ?kK ?k6 ?k7 ?k8 ?k9 ?kB ?_ ?c2 ?c3 ?c4 ?c5; (case kA => exact rfl); (case kF => exact rfl); (case kK => first | assumption | exact rfl); (case k1 => k_asm); (case k2 => k_asm); (case k3 => k_asm); (case k4 => k_asm); (case k5 => k_asm); (case k6 => k_is); (case k7 => k_is); (case k8 => ktr_room); (case k9 => first | exact BindsTo.of_eq rfl | exact binds_K (by k_in) rfl (by k_is) rfl rfl rfl); (case c5 => decide); (case kB => exact locs rfl); (case c2 => exact rfl); (case c3 => exact rfl); (case c4 => exact rfl); k_whole; intro g' L' h' FG' F' N' B' X' T'; (try dsimp only); (try k_fold))))
  (k_with "gm" => ((with_reducible show wpAny _ _ (getMethod (Value.ref _) (Str.ofString "get") _) _ _ _); k_dflt (refine' intd_getm ?N ?m ?d ?_; (case N => k_asm); (case m => k_mem); (case d => k_asm); k_whole)))
  (k_with "gm" => ((with_reducible show wpAny _ _ (getMethod (Value.ref _) (Str.ofString "pop") _) _ _ _); k_dflt (refine' intd_popm ?N ?m ?d ?_; (case N => k_asm); (case m => k_mem); (case d => k_asm); k_whole)))
  (k_with "dget" => ((with_reducible show wpAny _ _ (call (Value.builtin "dict.get") [Value.ref _, Value.int _ _, Value.int _ _]) _ _ _); k_dflt (refine' intd_get ?N ?m ?d ?l ?_; (case N => k_asm); (case m => k_mem); (case d => k_asm); (case l => k_asm); k_whole); intro t9))
  (k_with "dpop" => ((with_reducible show wpAny _ _ (call (Value.builtin "dict.pop") [Value.ref _, Value.int _ _, Value.none]) _ _ _); k_dflt (refine' intd_pop ?F ?N ?U ?d ?l ?_; (case F => k_asm); (case N => k_asm); (case U => k_updF); (case d => k_asm); (case l => k_asm); k_whole); intro r9 h' ow' F' N' d'; try dsimp only at N'))
  (k_with "seti" => ((with_reducible show wpAny _ _ (setItem (Value.ref _) (Value.int _ _) (Value.int _ _)) _ _ _); k_dflt (refine' intd_set ?F ?N ?U ?d ?i0 ?i1 ?_; (case F => k_asm); (case N => k_asm); (case U => k_updF); (case d => k_asm); (case i0 => omega); (case i1 => omega); k_whole); intro h' ow' F' N' d'; try dsimp only at N'))
  (k_with "mod" => (refine mod_e (by omega) ?_))
  (k_with "div" => (refine div_e (by omega) (by omega) (by omega) ?_))
  (k_with "shr" => (with_reducible (first | refine shr2 ?_ | refine shr4 ?_ | refine shr10 ?_)))
  (k_with "shl" => (first | (with_reducible refine shl2 ?_ ?_ ?_; omega; omega) | (with_reducible refine shl4 ?_ ?_ ?_; omega; omega) | (with_reducible refine shl10 ?_ ?_ ?_; omega; omega)))
  (k_with "band" => (with_reducible first | refine and1 ?_ | refine and3 ?_ | refine and15 ?_))
  (k_with "look" => first | exact look lk1 (by omega) | exact look lk2 (by omega) | exact look lk3 (by omega) | exact rfl)
  (k_with "ise" => assumption)
  (k_with "kind" => first | assumption | exact .inl rfl | exact .inr rfl)
  (k_with "base" => first | exact rfl | assumption)
  trivial
theorem u_again_tok : True := by (k_with "tok" => ((with_reducible show wpAny _ _ _ _ _ (Shared.mk _ _ _ (_ + _) _)); refine tok_gen ?_; intro tk; try dsimp only)); trivial
local macro_rules | `(tactic| omega) => `(tactic| lia)
/-- what a dict of an object's names holds beside its values: hashes, tokens, a count -/
structure IV where
  k1 : Int
  k2 : Int
  k3 : Int
  k4 : Int
  k5 : Int
  k6 : Int
  t1 : Nat
  t2 : Nat
  t3 : Nat
  t4 : Nat
  t5 : Nat
  t6 : Nat
  u1 : Nat
  u2 : Nat
  u3 : Nat
  u4 : Nat
  u5 : Nat
  u6 : Nat
  n : Nat
def memE (v : IV) (dw : Addr) : List DictEntry := [⟨v.k1, .str "size" v.t1, .int 1024 v.u1⟩, ⟨v.k2, .str "begin" v.t2, .int 0 v.u2⟩, ⟨v.k3, .str "end" v.t3, .int 1024 v.u3⟩, ⟨v.k4, .str "words" v.t4, .ref dw⟩]
def MemIn (tl : List (Addr × Obj)) (mem dmem dw : Addr) : Prop := ∃ v : IV, (mem, instObj 643 dmem) ∈ tl ∧ (dmem, dictOf (memE v dw) v.n) ∈ tl ∧ mem ≠ dw ∧ dmem ≠ dw
theorem MemIn.mono {tl tl' : List (Addr × Obj)} {mem dmem dw : Addr} (h : MemIn tl mem dmem dw) (s : ∀ p ∈ tl, p.1 ≠ dw → p ∈ tl') : MemIn tl' mem dmem dw :=
  let ⟨v, a, b, c, d⟩ := h
  ⟨v, s _ a c, s _ b d, c, d⟩
theorem upd_move {d : Addr} {o : Obj} {news : List (Addr × Obj)} {g : Obj → List (Addr × Obj)} (U : UpdF d o news g) : ∃ tl : List (Addr × Obj), (∀ p ∈ tl, p.1 ≠ d) ∧ (∀ p ∈ news, p.1 ≠ d → p ∈ tl) ∧ (∀ p ∈ tl, p ∈ news) ∧
    ∀ h₀ L h, (News h₀ L h news → News h₀ L h ((d, o) :: tl)) ∧ ∀ o', News h₀ L h ((d, o') :: tl) → News h₀ L h (g o') := by
  obtain ⟨pre, post, rfl, hg, a, b⟩ := U.split
  refine ⟨pre ++ post, fun p hp => (List.mem_append.mp hp).elim (a p) (b p), fun p hp hn => ?_, fun p hp => ?_, fun h₀ L h => ⟨fun N p hp => N p ?_, fun o' N => ?_⟩⟩
  · rcases List.mem_append.mp hp with q | q
    · exact List.mem_append_left _ q
    · rcases List.mem_cons.mp q with rfl | q
      · exact absurd rfl hn
      · exact List.mem_append_right _ q
  · rcases List.mem_append.mp hp with q | q
    · exact List.mem_append_left _ q
    · exact List.mem_append_right _ (List.mem_cons_of_mem _ q)
  · rcases List.mem_cons.mp hp with rfl | q
    · exact List.mem_append_right _ List.mem_cons_self
    · rcases List.mem_append.mp q with q | q
      · exact List.mem_append_left _ q
      · exact List.mem_append_right _ (List.mem_cons_of_mem _ q)
  · rw [hg]
    intro p hp
    rcases List.mem_append.mp hp with q | q
    · exact N p (List.mem_cons_of_mem _ (List.mem_append_left _ q))
    · rcases List.mem_cons.mp q with rfl | q
      · exact N _ List.mem_cons_self
      · exact N p (List.mem_cons_of_mem _ (List.mem_append_right _ q))
theorem u_memin : True := by (k_with "memin" => first | assumption | exact MemIn.mono (by assumption) (by k_extra "subn")); trivial
section
variable {w : World} {p : Program} {loose : List Str} {mean : ExcName → Option Value} {mg mb : Str → Option Value} {dp un : Nat} {gd : Option (List Code)} {cn : Str} {cs : Scope} {a : Addr} {ccd : Value} {cl : List (Str × Addr)} {outer : List Env} {A₀ : Around} {base h₀ : Heap} {L : Addr} {m : Str → Option Value} {s : Shared} {Q E : Value → Shared → Prop} {news tl : List (Addr × Obj)} {g : Obj → List (Addr × Obj)} {mem dmem dw : Addr} {ow : Obj} {M : Int → Int}
  (B : Below A₀ base outer h₀) (F : Fr h₀ L s.heap m) (X : (K w.params).In h₀) (T : Top p loose mean mg mb h₀) (hk : cs.kind = .function)
include B F X T hk
theorem c_na (N : News h₀ L s.heap news) (hd : dp + 1 < recursionLimit) (hu : un + 8 < cLine) (hm : MemIn news mem dmem dw) {i : Int} {t t' : Tok} (i0 : 0 ≤ i) (i1 : i + 4 ≤ 1024) (i4 : i % 4 = 0)
    (ret : ∀ h' tk', Fr h₀ L h' m → News h₀ L h' news → Q .none { s with heap := h', toks := tk' }) :
    wpAny (model PySem.Challenge.rw_pf0221_01.prog w) (ktrTop dp un gd cn cs L a ccd cl outer) (call (.ref 509) [.ref mem, .int i t, .int 4 t']) Q E s := by
  obtain ⟨v9, hm1, hm2, hm3, hm4⟩ := hm
  k_extra "enter"
  k_steps
  refine ret _ _ ?_ ?_ <;> k_asm
theorem u_na : True := by (k_with "ctr" => ((with_reducible show wpAny _ _ (call (Value.ref 509) _ _) _ _ _); k_dflt (refine c_na (by k_asm) (by k_asm) (by k_asm) (by k_asm) (by k_extra "base") (by k_asm) (by ktr_room) (by ktr_units) (by k_extra "memin") (by assumption) (by omega) (by assumption) ?_); intro h' tk' F' N'; try dsimp only)); trivial
theorem c_word (N : News h₀ L s.heap news) (hd : dp + 2 < recursionLimit) (hu : un + 16 < cLine) (hm : MemIn news mem dmem dw) (hw : (dw, ow) ∈ news) (hi : IntD w ow M) (lo : (dw == sysModules) = false) {i : Int} {t : Tok} (i0 : 0 ≤ i) (i1 : i < 1024) (i4 : i % 4 = 0) {e : Int} (hE : M (i / 4) = e)
    (ret : ∀ t h' tk', Fr h₀ L h' m → News h₀ L h' news → Q (.int e t) { s with heap := h', toks := tk' }) :
    wpAny (model PySem.Challenge.rw_pf0221_01.prog w) (ktrTop dp un gd cn cs L a ccd cl outer) (call (.ref 516) [.ref mem, .int i t]) Q E s := by
  have hm' := hm
  obtain ⟨v9, hm1, hm2, hm3, hm4⟩ := hm'
  k_extra "enter"
  k_steps
  rw [hE]
  refine ret _ _ _ ?_ ?_ <;> k_asm
theorem u_word : True := by (k_with "ctr" => ((with_reducible show wpAny _ _ (call (Value.ref 516) _ _) _ _ _); k_dflt (refine c_word (by k_asm) (by k_asm) (by k_asm) (by k_asm) (by k_extra "base") (by k_asm) (by ktr_room) (by ktr_units) (by k_extra "memin") (by k_mem) (by assumption) (by assumption) (by omega) (by omega) (by omega) (by k_extra "look") ?_); intro t9 h' tk' F' N'; try dsimp only)); trivial
theorem c_keep (N : News h₀ L s.heap news) (hd : dp + 1 < recursionLimit) (hu : un + 8 < cLine) (hm : MemIn news mem dmem dw) (hi : IntD w ow M) (lo : (dw == sysModules) = false) (U : UpdF dw ow news g) {k v : Int} {t u : Tok} (i0 : 0 ≤ k) (i1 : k < 256)
    (ret : ∀ ow' h' tk', Fr h₀ L h' m → News h₀ L h' (g ow') → IntD w ow' (put M k v) → Q .none { s with heap := h', toks := tk' }) :
    wpAny (model PySem.Challenge.rw_pf0221_01.prog w) (ktrTop dp un gd cn cs L a ccd cl outer) (call (.ref 530) [.ref mem, .int k t, .int v u]) Q E s := by
  obtain ⟨tl, mv1, mv2, _, mv⟩ := upd_move U
  have N2 := (mv _ _ _).1 N
  have hm' := hm.mono mv2
  clear N
  obtain ⟨v9, hm1, hm2, hm3, hm4⟩ := hm'
  k_extra "enter"
  k_steps
  all_goals (refine' ret _ _ _ ?qa ((mv _ _ _).2 _ ?qb) ?qc; (case qa => k_asm); (case qb => k_asm); (case qc => first | assumption | (have e9 : v = 0 := by omega); rw [e9]; assumption))
theorem u_keep : True := by (k_with "ctr" => ((with_reducible show wpAny _ _ (call (Value.ref 530) _ _) _ _ _); k_dflt (refine c_keep (by k_asm) (by k_asm) (by k_asm) (by k_asm) (by k_extra "base") (by k_asm) (by ktr_room) (by ktr_units) (by k_extra "memin") (by assumption) (by assumption) (by k_updF) (by omega) (by omega) ?_); intro ow' h' tk' F' N' d'; try dsimp only at N'; try dsimp only)); trivial
theorem c_putw (N : News h₀ L s.heap news) (hd : dp + 2 < recursionLimit) (hu : un + 16 < cLine) (hm : MemIn news mem dmem dw) (hi : IntD w ow M) (lo : (dw == sysModules) = false) (U : UpdF dw ow news g) {i v : Int} {t u : Tok} (i0 : 0 ≤ i) (i1 : i < 1024) (i4 : i % 4 = 0)
    (ret : ∀ ow' h' tk', Fr h₀ L h' m → News h₀ L h' (g ow') → IntD w ow' (put M (i / 4) (v % 4294967296)) → Q .none { s with heap := h', toks := tk' }) :
    wpAny (model PySem.Challenge.rw_pf0221_01.prog w) (ktrTop dp un gd cn cs L a ccd cl outer) (call (.ref 523) [.ref mem, .int i t, .int v u]) Q E s := by
  obtain ⟨tl, mv1, mv2, _, mv⟩ := upd_move U
  have N2 := (mv _ _ _).1 N
  have hm' := hm.mono mv2
  clear N
  have hm'' := hm'
  obtain ⟨v9, hm1, hm2, hm3, hm4⟩ := hm''
  k_extra "enter"
  k_steps
  all_goals (refine' ret _ _ _ ?qa ((mv _ _ _).2 _ ?qb) ?qc; (case qa => k_asm); (case qb => k_asm); (case qc => rw [← bitAnd_m32]; assumption))
theorem u_putw : True := by (k_with "ctr" => ((with_reducible show wpAny _ _ (call (Value.ref 523) _ _) _ _ _); k_dflt (refine c_putw (by k_asm) (by k_asm) (by k_asm) (by k_asm) (by k_extra "base") (by k_asm) (by ktr_room) (by ktr_units) (by k_extra "memin") (by assumption) (by assumption) (by k_updF) (by omega) (by omega) (by omega) ?_); intro ow' h' tk' F' N' d'; try dsimp only at N'; try dsimp only)); trivial
theorem c_get (N : News h₀ L s.heap news) (hd : dp + 3 < recursionLimit) (hu : un + 24 < cLine) (hm : MemIn news mem dmem dw) (hw : (dw, ow) ∈ news) (hi : IntD w ow M) (lo : (dw == sysModules) = false) {i : Int} {t t' : Tok} (i0 : 0 ≤ i) (i1 : i < 1024) (i4 : i % 4 = 0) {e : Int} (hE : M (i / 4) = e)
    (ret : ∀ t h' tk', Fr h₀ L h' m → News h₀ L h' news → Q (.int e t) { s with heap := h', toks := tk' }) :
    wpAny (model PySem.Challenge.rw_pf0221_01.prog w) (ktrTop dp un gd cn cs L a ccd cl outer) (call (.ref 572) [.ref mem, .int i t, .int 4 t']) Q E s := by
  have hm' := hm
  obtain ⟨v9, hm1, hm2, hm3, hm4⟩ := hm'
  k_extra "enter"
  have lk1 := hE
  k_steps
  refine ret _ _ _ ?_ ?_ <;> k_asm
theorem u_get : True := by (k_with "ctr" => ((with_reducible show wpAny _ _ (call (Value.ref 572) _ _) _ _ _); k_dflt (refine c_get (by k_asm) (by k_asm) (by k_asm) (by k_asm) (by k_extra "base") (by k_asm) (by ktr_room) (by ktr_units) (by k_extra "memin") (by k_mem) (by assumption) (by assumption) (by omega) (by omega) (by omega) (by k_extra "look") ?_); intro t9 h' tk' F' N'; try dsimp only)); trivial
theorem c_put (N : News h₀ L s.heap news) (hd : dp + 3 < recursionLimit) (hu : un + 24 < cLine) (hm : MemIn news mem dmem dw) (hi : IntD w ow M) (lo : (dw == sysModules) = false) (U : UpdF dw ow news g) {i v : Int} {t u t' : Tok} (i0 : 0 ≤ i) (i1 : i < 1024) (i4 : i % 4 = 0)
    (ret : ∀ ow' h' tk', Fr h₀ L h' m → News h₀ L h' (g ow') → IntD w ow' (put M (i / 4) (v % 4294967296)) → Q .none { s with heap := h', toks := tk' }) :
    wpAny (model PySem.Challenge.rw_pf0221_01.prog w) (ktrTop dp un gd cn cs L a ccd cl outer) (call (.ref 579) [.ref mem, .int i t, .int 4 t', .int v u]) Q E s := by
  obtain ⟨tl, mv1, mv2, _, mv⟩ := upd_move U
  have N2 := (mv _ _ _).1 N
  have hm' := hm.mono mv2
  clear N
  have hm'' := hm'
  obtain ⟨v9, hm1, hm2, hm3, hm4⟩ := hm''
  k_extra "enter"
  k_steps
  all_goals (refine' ret _ _ _ ?qa ((mv _ _ _).2 _ ?qb) ?qc; (case qa => k_asm); (case qb => k_asm); (case qc => assumption))
theorem u_put : True := by (k_with "ctr" => ((with_reducible show wpAny _ _ (call (Value.ref 579) _ _) _ _ _); k_dflt (refine c_put (by k_asm) (by k_asm) (by k_asm) (by k_asm) (by k_extra "base") (by k_asm) (by ktr_room) (by ktr_units) (by k_extra "memin") (by assumption) (by assumption) (by k_updF) (by omega) (by omega) (by omega) ?_); intro ow' h' tk' F' N' d'; try dsimp only at N'; try dsimp only)); trivial
end
def layE (v : IV) : List DictEntry := [⟨v.k1, .str "page_bits" v.t1, .int 4 v.u1⟩, ⟨v.k2, .str "level_bits" v.t2, .int 2 v.u2⟩, ⟨v.k3, .str "page" v.t3, .int 16 v.u3⟩, ⟨v.k4, .str "entries" v.t4, .int 4 v.u4⟩, ⟨v.k5, .str "large" v.t5, .int 64 v.u5⟩, ⟨v.k6, .str "end" v.t6, .int 256 v.u6⟩]
def LayIn (tl : List (Addr × Obj)) (lay dlay : Addr) : Prop := ∃ v : IV, (lay, instObj 182 dlay) ∈ tl ∧ (dlay, dictOf (layE v) v.n) ∈ tl
theorem LayIn.mono {tl tl' : List (Addr × Obj)} {lay dlay : Addr} (h : LayIn tl lay dlay) (s : ∀ p ∈ tl, p ∈ tl') : LayIn tl' lay dlay :=
  let ⟨v, a, b⟩ := h
  ⟨v, s _ a, s _ b⟩
theorem u_sub : True := by (k_with "sub" => (intro p9 hp9; repeat (first | assumption | apply List.mem_cons_of_mem))); trivial
theorem u_layin : True := by (k_with "layin" => first | assumption | exact LayIn.mono (by assumption) (by k_extra "sub")); trivial
section
variable {w : World} {p : Program} {loose : List Str} {mean : ExcName → Option Value} {mg mb : Str → Option Value} {dp un : Nat} {gd : Option (List Code)} {cn : Str} {cs : Scope} {a : Addr} {ccd : Value} {cl : List (Str × Addr)} {outer : List Env} {A₀ : Around} {base h₀ : Heap} {L : Addr} {m : Str → Option Value} {s : Shared} {Q E : Value → Shared → Prop} {news tl : List (Addr × Obj)} {g : Obj → List (Addr × Obj)} {mem dmem dw lay dlay : Addr} {ow : Obj} {M : Int → Int}
  (B : Below A₀ base outer h₀) (F : Fr h₀ L s.heap m) (X : (K w.params).In h₀) (T : Top p loose mean mg mb h₀) (hk : cs.kind = .function)
include B F X T hk
theorem c_parts (N : News h₀ L s.heap news) (hd : dp + 1 < recursionLimit) (hu : un + 8 < cLine) (hl : LayIn news lay dlay) {i : Int} {t : Tok} (i0 : 0 ≤ i) (i1 : i < 256)
    (ret : ∀ q t1 t2 t3 h' tk', Fr h₀ L h' m → News h₀ L h' ((q, { cls := .type "tuple", data := .seq #[.int (i / 16 / 4) t1, .int (i / 16 % 4) t2, .int (i % 16) t3] 0 }) :: news) → (∀ p ∈ news, p.1 < q) → Q (.ref q) { s with heap := h', toks := tk' }) :
    wpAny (model PySem.Challenge.rw_pf0221_01.prog w) (ktrTop dp un gd cn cs L a ccd cl outer) (call (.ref 129) [.ref lay, .int i t]) Q E s := by
  obtain ⟨v9, hl1, hl2⟩ := hl
  k_extra "enter"
  k_steps
  refine' ret _ _ _ _ _ _ ?qa ?qb ?qc
  case qa => k_asm
  case qb => k_asm
  case qc => first | assumption | exact of_allLt (by assumption)
theorem u_parts : True := by (k_with "ctr" => ((with_reducible show wpAny _ _ (call (Value.ref 129) _ _) _ _ _); k_dflt (refine c_parts (by k_asm) (by k_asm) (by k_asm) (by k_asm) (by k_extra "base") (by k_asm) (by ktr_room) (by ktr_units) (by k_extra "layin") (by omega) (by omega) ?_); intro q9 t91 t92 t93 h' tk' F' N' l9; (try k_lt l9); try dsimp only)); trivial
theorem c_is_leaf (N : News h₀ L s.heap news) (hd : dp + 1 < recursionLimit) (hu : un + 8 < cLine) {e : Int} {t : Tok}
    (ret : ∀ h' tk', Fr h₀ L h' m → News h₀ L h' news → Q (.bool (Builtin.bitAnd e 10 != 0)) { s with heap := h', toks := tk' }) :
    wpAny (model PySem.Challenge.rw_pf0221_01.prog w) (ktrTop dp un gd cn cs L a ccd cl outer) (call (.ref 198) [.int e t]) Q E s := by
  k_extra "enter"
  k_steps
  refine ret _ _ ?_ ?_ <;> k_asm
theorem u_is_leaf : True := by (k_with "ctr" => ((with_reducible show wpAny _ _ (call (Value.ref 198) _ _) _ _ _); k_dflt (refine c_is_leaf (by k_asm) (by k_asm) (by k_asm) (by k_asm) (by k_extra "base") (by k_asm) (by ktr_room) (by ktr_units) ?_); intro h' tk' F' N'; try dsimp only)); trivial
theorem c_is_sound (N : News h₀ L s.heap news) (hd : dp + 1 < recursionLimit) (hu : un + 8 < cLine) {e : Int} {t : Tok} (h1 : e % 2 = 1) (h2 : Builtin.bitAnd e 6 ≠ 4)
    (ret : ∀ h' tk', Fr h₀ L h' m → News h₀ L h' news → Q (.bool true) { s with heap := h', toks := tk' }) :
    wpAny (model PySem.Challenge.rw_pf0221_01.prog w) (ktrTop dp un gd cn cs L a ccd cl outer) (call (.ref 205) [.int e t]) Q E s := by
  k_extra "enter"
  k_steps
  rw [show (Builtin.bitAnd e (Builtin.bitOr 2 4) != 4) = true from bne_iff_ne.mpr h2]
  refine ret _ _ ?_ ?_ <;> k_asm
theorem u_is_sound : True := by (k_with "ctr" => ((with_reducible show wpAny _ _ (call (Value.ref 205) _ _) _ _ _); k_dflt (refine c_is_sound (by k_asm) (by k_asm) (by k_asm) (by k_asm) (by k_extra "base") (by k_asm) (by ktr_room) (by ktr_units) (by omega) (by omega) ?_); intro h' tk' F' N'; try dsimp only)); trivial
theorem c_physical (N : News h₀ L s.heap news) (hd : dp + 1 < recursionLimit) (hu : un + 8 < cLine) (hl : LayIn news lay dlay) {e : Int} {t : Tok} (e0 : 0 ≤ e) (e1 : e < 2 ^ 60)
    (ret : ∀ t h' tk', Fr h₀ L h' m → News h₀ L h' news → Q (.int (e / 1024 * 16) t) { s with heap := h', toks := tk' }) :
    wpAny (model PySem.Challenge.rw_pf0221_01.prog w) (ktrTop dp un gd cn cs L a ccd cl outer) (call (.ref 179) [.ref lay, .int e t]) Q E s := by
  obtain ⟨v9, hl1, hl2⟩ := hl
  k_extra "enter"
  k_steps
  refine ret _ _ _ ?_ ?_ <;> k_asm
theorem u_physical : True := by (k_with "ctr" => ((with_reducible show wpAny _ _ (call (Value.ref 179) _ _) _ _ _); k_dflt (refine c_physical (by k_asm) (by k_asm) (by k_asm) (by k_asm) (by k_extra "base") (by k_asm) (by ktr_room) (by ktr_units) (by k_extra "layin") (by omega) (by omega) ?_); intro t9 h' tk' F' N'; try dsimp only)); trivial
theorem c_entry (N : News h₀ L s.heap news) (hd : dp + 1 < recursionLimit) (hu : un + 8 < cLine) (hl : LayIn news lay dlay) {e f : Int} {t u : Tok} (e0 : 0 ≤ e) (e1 : e < 2 ^ 40) (f0 : 0 ≤ f) (f1 : f < 1024)
    (ret : ∀ t h' tk', Fr h₀ L h' m → News h₀ L h' news → Q (.int (1024 * (e / 16) + f) t) { s with heap := h', toks := tk' }) :
    wpAny (model PySem.Challenge.rw_pf0221_01.prog w) (ktrTop dp un gd cn cs L a ccd cl outer) (call (.ref 172) [.ref lay, .int e t, .int f u]) Q E s := by
  obtain ⟨v9, hl1, hl2⟩ := hl
  k_extra "enter"
  k_steps
  rw [show Builtin.bitOr (e / 16 * 1024) f = 1024 * (e / 16) + f from bor_1024 (by omega) f0 f1]
  refine ret _ _ _ ?_ ?_ <;> k_asm
theorem u_entry : True := by (k_with "ctr" => ((with_reducible show wpAny _ _ (call (Value.ref 172) _ _) _ _ _); k_dflt (refine c_entry (by k_asm) (by k_asm) (by k_asm) (by k_asm) (by k_extra "base") (by k_asm) (by ktr_room) (by ktr_units) (by k_extra "layin") (by omega) (by omega) (by first | omega | decide) (by first | omega | decide) ?_); intro t9 h' tk' F' N'; try dsimp only)); trivial
theorem c_down (N : News h₀ L s.heap news) (hd : dp + 1 < recursionLimit) (hu : un + 8 < cLine) (hl : LayIn news lay dlay) {e : Int} {t : Tok}
    (ret : ∀ t h' tk', Fr h₀ L h' m → News h₀ L h' news → Q (.int (e - e % 16) t) { s with heap := h', toks := tk' }) :
    wpAny (model PySem.Challenge.rw_pf0221_01.prog w) (ktrTop dp un gd cn cs L a ccd cl outer) (call (.ref 144) [.ref lay, .int e t]) Q E s := by
  obtain ⟨v9, hl1, hl2⟩ := hl
  k_extra "enter"
  k_steps
  rw [show Builtin.bitAnd e (Builtin.bitNot (16 - 1)) = e - e % 16 from band_not15 e]
  refine ret _ _ _ ?_ ?_ <;> k_asm
theorem u_down : True := by (k_with "ctr" => ((with_reducible show wpAny _ _ (call (Value.ref 144) _ _) _ _ _); k_dflt (refine c_down (by k_asm) (by k_asm) (by k_asm) (by k_asm) (by k_extra "base") (by k_asm) (by ktr_room) (by ktr_units) (by k_extra "layin") ?_); intro t9 h' tk' F' N'; try dsimp only)); trivial
theorem c_is_begin (N : News h₀ L s.heap news) (hd : dp + 1 < recursionLimit) (hu : un + 8 < cLine) (hl : LayIn news lay dlay) {e : Int} {t : Tok}
    (ret : ∀ h' tk', Fr h₀ L h' m → News h₀ L h' news → Q (.bool (e % 16 == 0)) { s with heap := h', toks := tk' }) :
    wpAny (model PySem.Challenge.rw_pf0221_01.prog w) (ktrTop dp un gd cn cs L a ccd cl outer) (call (.ref 158) [.ref lay, .int e t]) Q E s := by
  obtain ⟨v9, hl1, hl2⟩ := hl
  k_extra "enter"
  k_steps
  refine ret _ _ ?_ ?_ <;> k_asm
theorem u_is_begin : True := by (k_with "ctr" => ((with_reducible show wpAny _ _ (call (Value.ref 158) _ _) _ _ _); k_dflt (refine c_is_begin (by k_asm) (by k_asm) (by k_asm) (by k_asm) (by k_extra "base") (by k_asm) (by ktr_room) (by ktr_units) (by k_extra "layin") ?_); intro h' tk' F' N'; try dsimp only)); trivial
theorem c_may (N : News h₀ L s.heap news) (hd : dp + 1 < recursionLimit) (hu : un + 8 < cLine) {e : Int} {k : Str} {t u t1 t2 t3 : Tok} (hk9 : k = "load" ∨ k = "store") (h1 : Builtin.bitAnd e 2 = 2) (h2 : Builtin.bitAnd e 4 = 4) (h3 : Builtin.bitAnd e 16 = 16)
    (ret : ∀ h' tk', Fr h₀ L h' m → News h₀ L h' news → Q (.bool true) { s with heap := h', toks := tk' }) :
    wpAny (model PySem.Challenge.rw_pf0221_01.prog w) (ktrTop dp un gd cn cs L a ccd cl outer) (call (.ref 212) [.int e t, .str k u, .int 0 t1, .int 0 t2, .int 0 t3]) Q E s := by
  rcases hk9 with rfl | rfl
  · k_extra "enter"
    k_steps
    rw [show (Builtin.bitAnd e 2 != 0) = true from bne_iff_ne.mpr (by omega)]
    refine ret _ _ ?_ ?_ <;> k_asm
  · k_extra "enter"
    k_steps
    rw [show (Builtin.bitAnd e 4 != 0) = true from bne_iff_ne.mpr (by omega)]
    refine ret _ _ ?_ ?_ <;> k_asm
theorem u_may : True := by (k_with "ctr" => ((with_reducible show wpAny _ _ (call (Value.ref 212) _ _) _ _ _); k_dflt (refine c_may (by k_asm) (by k_asm) (by k_asm) (by k_asm) (by k_extra "base") (by k_asm) (by ktr_room) (by ktr_units) (by assumption) (by assumption) (by assumption) (by assumption) ?_); intro h' tk' F' N'; try dsimp only)); trivial
end
def busE (v : IV) (mem ls : Addr) : List DictEntry := [⟨v.k1, .str "memory" v.t1, .ref mem⟩, ⟨v.k2, .str "stretches" v.t2, .ref ls⟩]
def walE (v : IV) (bus lay : Addr) : List DictEntry := [⟨v.k1, .str "bus" v.t1, .ref bus⟩, ⟨v.k2, .str "layout" v.t2, .ref lay⟩]
/-- a walker, its bus, its layout; dw: the dict of the memory's words -/
def WalIn (tl : List (Addr × Obj)) (wk dwk bus dbus ls lay dlay mem dmem dw : Addr) : Prop := ∃ v v' : IV, (wk, instObj 266 dwk) ∈ tl ∧ (dwk, dictOf (walE v bus lay) v.n) ∈ tl ∧ (bus, instObj 750 dbus) ∈ tl ∧ (dbus, dictOf (busE v' mem ls) v'.n) ∈ tl ∧
  LayIn tl lay dlay ∧ MemIn tl mem dmem dw ∧ wk ≠ dw ∧ dwk ≠ dw ∧ bus ≠ dw ∧ dbus ≠ dw ∧ lay ≠ dw ∧ dlay ≠ dw
theorem WalIn.mono {tl tl' : List (Addr × Obj)} {wk dwk bus dbus ls lay dlay mem dmem dw : Addr} (h : WalIn tl wk dwk bus dbus ls lay dlay mem dmem dw) (s : ∀ p ∈ tl, p.1 ≠ dw → p ∈ tl') : WalIn tl' wk dwk bus dbus ls lay dlay mem dmem dw := by
  obtain ⟨v, v', a1, a2, a3, a4, ⟨v2, a5, a6⟩, a7, b1, b2, b3, b4, b5, b6⟩ := h
  exact ⟨v, v', s _ a1 b1, s _ a2 b2, s _ a3 b3, s _ a4 b4, ⟨v2, s _ a5 b5, s _ a6 b6⟩, a7.mono s, b1, b2, b3, b4, b5, b6⟩
theorem u_walin : True := by (k_with "walin" => first | assumption | exact WalIn.mono (by assumption) (by k_extra "subn")); trivial
def IsE (e f : Int) : Prop := e = 1024 * f + 23 ∨ e = 1024 * f + 87 ∨ e = 1024 * f + 215
theorem due_load {e f : Int} (h : IsE e f) (hf : 0 ≤ f) : IsE (Builtin.bitOr (Builtin.bitOr e 64) 0) f := by
  have z : ∀ x : Int, Builtin.bitOr x 0 = x := fun x => by rw [bitOr_and, bitAnd_zero]; omega
  rw [z]
  rcases h with rfl | rfl | rfl <;> rw [bor_low hf (by decide) (by decide) (by decide)]
  · exact .inr (.inl rfl)
  · exact .inr (.inl rfl)
  · exact .inr (.inr rfl)
theorem due_store {e f : Int} (h : IsE e f) (hf : 0 ≤ f) : IsE (Builtin.bitOr (Builtin.bitOr e 64) 128) f := by
  rcases h with rfl | rfl | rfl <;> rw [bor_low hf (by decide) (by decide) (by decide), bor_low hf (by decide) (by decide) (by decide)] <;> exact .inr (.inr rfl)
theorem news_drop {h₀ h : Heap} {L : Addr} {x : Addr × Obj} {l : List (Addr × Obj)} (N : News h₀ L h (x :: l)) : News h₀ L h l := fun p hp => N p (List.mem_cons_of_mem _ hp)
theorem tw_a {i e1 : Int} (h : e1 = 1024 * (61 + i / 64) + 1) : (e1 / 1024 * 16 + 4 * (i / 16 % 4)) / 4 = 244 + i / 16 := by omega
theorem tw_b {i : Int} : (960 + 4 * (i / 16 / 4)) / 4 = 240 + i / 64 := by omega
theorem u_looktw : True := by (k_with "look" => first | exact look lk1 tw_b | exact look lk2 (tw_a (by with_reducible assumption))); trivial
theorem small_aux {f c : Int} (hf : 0 ≤ f) (h8 : f < 1000) (c0 : 0 ≤ c) (c1 : c < 1024) (c2 : c % 2 = 1) : 0 ≤ 1024 * f + c ∧ 1024 * f + c < 2000000 ∧ (1024 * f + c) % 2 = 1 ∧ (1024 * f + c) / 1024 = f ∧ (1024 * f + c) % 4294967296 = 1024 * f + c := ⟨by omega, by omega, by omega, by omega, by omega⟩
theorem IsE.small {e f : Int} (h : IsE e f) (hf : 0 ≤ f) (h8 : f < 1000) : 0 ≤ e ∧ e < 2000000 ∧ e % 2 = 1 ∧ e / 1024 = f ∧ e % 4294967296 = e := by rcases h with rfl | rfl | rfl <;> exact small_aux hf h8 (by decide) (by decide) (by decide)
theorem IsE.bits {e f : Int} (h : IsE e f) (hf : 0 ≤ f) : Builtin.bitAnd e 6 = 6 ∧ Builtin.bitAnd e 10 = 2 ∧ Builtin.bitAnd e 2 = 2 ∧ Builtin.bitAnd e 4 = 4 ∧ Builtin.bitAnd e 16 = 16 := by
  rcases h with rfl | rfl | rfl <;> (refine ⟨?_, ?_, ?_, ?_, ?_⟩ <;> rw [band_low hf (by decide) (by decide) (by decide)] <;> decide)
theorem node_bits {e k : Int} (h : e = 1024 * k + 1) (hk : 0 ≤ k) : Builtin.bitAnd e 6 = 0 ∧ Builtin.bitAnd e 10 = 0 := by
  subst h
  refine ⟨?_, ?_⟩ <;> rw [band_low hk (by decide) (by decide) (by decide)] <;> decide
section
variable {w : World} {p : Program} {loose : List Str} {mean : ExcName → Option Value} {mg mb : Str → Option Value} {dp un : Nat} {gd : Option (List Code)} {cn : Str} {cs : Scope} {a : Addr} {ccd : Value} {cl : List (Str × Addr)} {outer : List Env} {A₀ : Around} {base h₀ : Heap} {L : Addr} {m : Str → Option Value} {s : Shared} {Q E : Value → Shared → Prop} {news tl : List (Addr × Obj)} {g : Obj → List (Addr × Obj)} {wk dwk bus dbus ls lay dlay mem dmem dw : Addr} {ow : Obj} {M : Int → Int}
  (B : Below A₀ base outer h₀) (F : Fr h₀ L s.heap m) (X : (K w.params).In h₀) (T : Top p loose mean mg mb h₀) (hk : cs.kind = .function)
include B F X T hk
theorem c_bload (N : News h₀ L s.heap news) (hd : dp + 4 < recursionLimit) (hu : un + 32 < cLine) (hW : WalIn news wk dwk bus dbus ls lay dlay mem dmem dw) (hw : (dw, ow) ∈ news) (hi : IntD w ow M) (lo : (dw == sysModules) = false) {i : Int} {t t' : Tok} (i0 : 0 ≤ i) (i1 : i < 1024) (i4 : i % 4 = 0) {e : Int} (hE : M (i / 4) = e)
    (ret : ∀ t h' tk', Fr h₀ L h' m → News h₀ L h' news → Q (.int e t) { s with heap := h', toks := tk' }) :
    wpAny (model PySem.Challenge.rw_pf0221_01.prog w) (ktrTop dp un gd cn cs L a ccd cl outer) (call (.ref 725) [.ref bus, .int i t, .int 4 t']) Q E s := by
  obtain ⟨v1, v2, m1, m2, m3, m4, hl, hm, _⟩ := hW
  have hm' := hm
  obtain ⟨v9, hm1, hm2, hm3, hm4⟩ := hm'
  k_extra "enter"
  have lk1 := hE
  k_steps
  refine ret _ _ _ ?_ ?_ <;> k_asm
theorem u_bload : True := by (k_with "ctr" => ((with_reducible show wpAny _ _ (call (Value.ref 725) _ _) _ _ _); k_dflt (refine c_bload (by k_asm) (by k_asm) (by k_asm) (by k_asm) (by k_extra "base") (by k_asm) (by ktr_room) (by ktr_units) (by k_extra "walin") (by k_mem) (by assumption) (by assumption) (by omega) (by omega) (by omega) (by k_extra "look") ?_); intro t9 h' tk' F' N'; try dsimp only)); trivial
theorem c_bstore (N : News h₀ L s.heap news) (hd : dp + 4 < recursionLimit) (hu : un + 32 < cLine) (hW : WalIn news wk dwk bus dbus ls lay dlay mem dmem dw) (hi : IntD w ow M) (lo : (dw == sysModules) = false) (U : UpdF dw ow news g) {i v : Int} {t u t' : Tok} (i0 : 0 ≤ i) (i1 : i < 1024) (i4 : i % 4 = 0)
    (ret : ∀ ow' h' tk', Fr h₀ L h' m → News h₀ L h' (g ow') → IntD w ow' (put M (i / 4) (v % 4294967296)) → Q .none { s with heap := h', toks := tk' }) :
    wpAny (model PySem.Challenge.rw_pf0221_01.prog w) (ktrTop dp un gd cn cs L a ccd cl outer) (call (.ref 733) [.ref bus, .int i t, .int 4 t', .int v u]) Q E s := by
  obtain ⟨tl, mv1, mv2, _, mv⟩ := upd_move U
  have N2 := (mv _ _ _).1 N
  have hW' := hW.mono mv2
  clear N
  obtain ⟨v1, v2, m1, m2, m3, m4, hl, hm, _⟩ := hW'
  have hm' := hm
  obtain ⟨v9, hm1, hm2, hm3, hm4⟩ := hm'
  k_extra "enter"
  k_steps
  all_goals (refine' ret _ _ _ ?qa ((mv _ _ _).2 _ ?qb) ?qc; (case qa => k_asm); (case qb => k_asm); (case qc => assumption))
theorem u_bstore : True := by (k_with "ctr" => ((with_reducible show wpAny _ _ (call (Value.ref 733) _ _) _ _ _); k_dflt (refine c_bstore (by k_asm) (by k_asm) (by k_asm) (by k_asm) (by k_extra "base") (by k_asm) (by ktr_room) (by ktr_units) (by k_extra "walin") (by assumption) (by assumption) (by k_updF) (by omega) (by omega) (by omega) ?_); intro ow' h' tk' F' N' d'; try dsimp only at N'; try dsimp only)); trivial
theorem c_entry_at (N : News h₀ L s.heap news) (hd : dp + 5 < recursionLimit) (hu : un + 40 < cLine) (hW : WalIn news wk dwk bus dbus ls lay dlay mem dmem dw) (hw : (dw, ow) ∈ news) (hi : IntD w ow M) (lo : (dw == sysModules) = false) {i ad : Int} {t u : Tok} {kv : Value} (i0 : 0 ≤ i) (i1 : i < 1024) (i4 : i % 4 = 0) {e : Int} (hE : M (i / 4) = e) (e2 : e % 2 = 1) (e6 : Builtin.bitAnd e 6 ≠ 4)
    (ret : ∀ t h' tk', Fr h₀ L h' m → News h₀ L h' news → Q (.int e t) { s with heap := h', toks := tk' }) :
    wpAny (model PySem.Challenge.rw_pf0221_01.prog w) (ktrTop dp un gd cn cs L a ccd cl outer) (call (.ref 241) [.ref wk, .int i t, .int ad u, kv]) Q E s := by
  have hW' := hW
  obtain ⟨v1, v2, m1, m2, m3, m4, hl, hm, _⟩ := hW'
  k_extra "enter"
  have lk1 := hE
  k_steps
  refine ret _ _ _ ?_ ?_ <;> k_asm
theorem u_entry_at : True := by (k_with "ctr" => ((with_reducible show wpAny _ _ (call (Value.ref 241) _ _) _ _ _); k_dflt (refine c_entry_at (by k_asm) (by k_asm) (by k_asm) (by k_asm) (by k_extra "base") (by k_asm) (by ktr_room) (by ktr_units) (by k_extra "walin") (by k_mem) (by assumption) (by assumption) (by omega) (by omega) (by omega) (by k_extra "look") (by omega) (by omega) ?_); intro t9 h' tk' F' N'; try dsimp only)); trivial
theorem c_mark (N : News h₀ L s.heap news) (hd : dp + 5 < recursionLimit) (hu : un + 40 < cLine) (hW : WalIn news wk dwk bus dbus ls lay dlay mem dmem dw) (hi : IntD w ow M) (lo : (dw == sysModules) = false) (U : UpdF dw ow news g) {i e f ad : Int} {k : Str} {t t1 t2 t3 : Tok} (i0 : 0 ≤ i) (i1 : i < 1024) (i4 : i % 4 = 0) (hE : M (i / 4) = e) (he : IsE e f) (f0 : 0 ≤ f) (f8 : f < 1000) (hk9 : k = "load" ∨ k = "store")
    (ret : ∀ ow' M' h' tk', Fr h₀ L h' m → News h₀ L h' (g ow') → IntD w ow' M' → (∀ x, x ≠ i / 4 → M' x = M x) → IsE (M' (i / 4)) f → Q .none { s with heap := h', toks := tk' }) :
    wpAny (model PySem.Challenge.rw_pf0221_01.prog w) (ktrTop dp un gd cn cs L a ccd cl outer) (call (.ref 255) [.ref wk, .int i t, .int e t1, .int ad t2, .str k t3]) Q E s := by
  obtain ⟨tl, mv1, mv2, _, mv⟩ := upd_move U
  have N2 := (mv _ _ _).1 N
  have hW' := hW.mono mv2
  clear N
  have hW9 := hW'
  obtain ⟨v1, v2, m1, m2, m3, m4, hl, hm, _⟩ := hW9
  have cl0 : ∀ d9 : Int, IsE d9 f → d9 % 4294967296 = d9 := fun d9 h9 => (h9.small f0 f8).2.2.2.2
  rcases hk9 with rfl | rfl
  · k_extra "enter"
    k_steps
    · refine' ret _ (put M (i / 4) (Builtin.bitOr (Builtin.bitOr e 64) 0 % 4294967296)) _ _ ?qa ((mv _ _ _).2 _ ?qb) ?qc ?qd ?qe
      case qa => k_asm
      case qb => k_asm
      case qc => assumption
      case qd => intro x hx; simp only [put, if_neg hx]
      case qe => simp only [put, if_true]; rw [cl0 _ (due_load he f0)]; exact due_load he f0
    · refine' ret _ M _ _ ?qa ((mv _ _ _).2 _ ?qb) ?qc ?qd ?qe
      case qa => k_asm
      case qb => k_asm
      case qc => assumption
      case qd => intro x hx; rfl
      case qe => rw [hE]; exact he
  · k_extra "enter"
    k_steps
    · refine' ret _ (put M (i / 4) (Builtin.bitOr (Builtin.bitOr e 64) 128 % 4294967296)) _ _ ?qa ((mv _ _ _).2 _ ?qb) ?qc ?qd ?qe
      case qa => k_asm
      case qb => k_asm
      case qc => assumption
      case qd => intro x hx; simp only [put, if_neg hx]
      case qe => simp only [put, if_true]; rw [cl0 _ (due_store he f0)]; exact due_store he f0
    · refine' ret _ M _ _ ?qa ((mv _ _ _).2 _ ?qb) ?qc ?qd ?qe
      case qa => k_asm
      case qb => k_asm
      case qc => assumption
      case qd => intro x hx; rfl
      case qe => rw [hE]; exact he
theorem u_mark : True := by (k_with "ctr" => ((with_reducible show wpAny _ _ (call (Value.ref 255) _ _) _ _ _); k_dflt (refine c_mark (by k_asm) (by k_asm) (by k_asm) (by k_asm) (by k_extra "base") (by k_asm) (by ktr_room) (by ktr_units) (by k_extra "walin") (by assumption) (by assumption) (by k_updF) (by omega) (by omega) (by omega) (by k_extra "look") (by assumption) (by assumption) (by omega) (by assumption) ?_); intro ow' M9 h' tk' F' N' d' mx9 me9; try dsimp only at N'; try dsimp only)); trivial
theorem c_translate (N : News h₀ L s.heap news) (hd : dp + 6 < recursionLimit) (hu : un + 48 < cLine) (hW : WalIn news wk dwk bus dbus ls lay dlay mem dmem dw) (hi : IntD w ow M) (lo : (dw == sysModules) = false) (U : UpdF dw ow news g) {i e f : Int} {k : Str} {t t1 t2 t3 t4 t5 : Tok} (i0 : 0 ≤ i) (i1 : i < 128) (h1 : M (240 + i / 64) = 1024 * (61 + i / 64) + 1) (h2 : M (244 + i / 16) = e) (he : IsE e f) (f0 : 0 ≤ f) (f8 : f < 8) (hk9 : k = "load" ∨ k = "store")
    (ret : ∀ ow' M' t h' tk', Fr h₀ L h' m → News h₀ L h' (g ow') → IntD w ow' M' → (∀ x, x ≠ 244 + i / 16 → M' x = M x) → IsE (M' (244 + i / 16)) f → Q (.int (16 * f + i % 16) t) { s with heap := h', toks := tk' }) :
    wpAny (model PySem.Challenge.rw_pf0221_01.prog w) (ktrTop dp un gd cn cs L a ccd cl outer) (call (.ref 234) [.ref wk, .int 960 t, .int i t1, .str k t2, .int 0 t3]) Q E s := by
  obtain ⟨tl, mv1, mv2, _, mv⟩ := upd_move U
  have N2 := (mv _ _ _).1 N
  have hW' := hW.mono mv2
  clear N
  have hW9 := hW'
  obtain ⟨v1, v2, m1, m2, m3, m4, hl, hm, n1, n2, n3, n4, n5, n6⟩ := hW9
  have hl9 := hl
  obtain ⟨v3, hl1, hl2⟩ := hl9
  obtain ⟨e1, q1⟩ : ∃ e1, e1 = 1024 * (61 + i / 64) + 1 := ⟨_, rfl⟩
  rw [← q1] at h1
  have lk1 := h1
  have lk2 := h2
  obtain ⟨b1, b2⟩ := node_bits q1 (by omega)
  obtain ⟨b3, b4, b5, b6, b7⟩ := he.bits f0
  obtain ⟨b8, b9, b10, b11, b12⟩ := he.small f0 (by omega)
  k_extra "enter"
  k_steps
  have pl : (e1 / 1024 * 16 + 4 * (i / 16 % 4)) / 4 = 244 + i / 16 := by omega
  rw [pl] at mx9 me9
  rw [b11, show Builtin.bitOr (f * 16) (i % 16) = 16 * f + i % 16 from by rw [Int.mul_comm]; exact bor_16 f0 (by omega) (by omega)]
  refine' ret _ _ _ _ _ ?qa ((mv _ _ _).2 _ (news_drop ?qb)) ?qc ?qd ?qe
  case qa => k_asm
  case qb => k_asm
  case qc => assumption
  case qd => exact mx9
  case qe => exact me9
theorem c_translate7 (N : News h₀ L s.heap news) (hd : dp + 6 < recursionLimit) (hu : un + 48 < cLine) (hW : WalIn news wk dwk bus dbus ls lay dlay mem dmem dw) (hi : IntD w ow M) (lo : (dw == sysModules) = false) (U : UpdF dw ow news g) {i e f : Int} {k : Str} {t t1 t2 t3 t4 t5 : Tok} (i0 : 0 ≤ i) (i1 : i < 128) (h1 : M (240 + i / 64) = 1024 * (61 + i / 64) + 1) (h2 : M (244 + i / 16) = e) (he : IsE e f) (f0 : 0 ≤ f) (f8 : f < 8) (hk9 : k = "load" ∨ k = "store")
    (ret : ∀ ow' M' t h' tk', Fr h₀ L h' m → News h₀ L h' (g ow') → IntD w ow' M' → (∀ x, x ≠ 244 + i / 16 → M' x = M x) → IsE (M' (244 + i / 16)) f → Q (.int (16 * f + i % 16) t) { s with heap := h', toks := tk' }) :
    wpAny (model PySem.Challenge.rw_pf0221_01.prog w) (ktrTop dp un gd cn cs L a ccd cl outer) (call (.ref 234) [.ref wk, .int 960 t, .int i t1, .str k t2, .int 0 t3, .int 0 t4, .int 0 t5]) Q E s := by
  obtain ⟨tl, mv1, mv2, _, mv⟩ := upd_move U
  have N2 := (mv _ _ _).1 N
  have hW' := hW.mono mv2
  clear N
  have hW9 := hW'
  obtain ⟨v1, v2, m1, m2, m3, m4, hl, hm, n1, n2, n3, n4, n5, n6⟩ := hW9
  have hl9 := hl
  obtain ⟨v3, hl1, hl2⟩ := hl9
  obtain ⟨e1, q1⟩ : ∃ e1, e1 = 1024 * (61 + i / 64) + 1 := ⟨_, rfl⟩
  rw [← q1] at h1
  have lk1 := h1
  have lk2 := h2
  obtain ⟨b1, b2⟩ := node_bits q1 (by omega)
  obtain ⟨b3, b4, b5, b6, b7⟩ := he.bits f0
  obtain ⟨b8, b9, b10, b11, b12⟩ := he.small f0 (by omega)
  k_extra "enter"
  k_steps
  have pl : (e1 / 1024 * 16 + 4 * (i / 16 % 4)) / 4 = 244 + i / 16 := by omega
  rw [pl] at mx9 me9
  rw [b11, show Builtin.bitOr (f * 16) (i % 16) = 16 * f + i % 16 from by rw [Int.mul_comm]; exact bor_16 f0 (by omega) (by omega)]
  refine' ret _ _ _ _ _ ?qa ((mv _ _ _).2 _ (news_drop ?qb)) ?qc ?qd ?qe
  case qa => k_asm
  case qb => k_asm
  case qc => assumption
  case qd => exact mx9
  case qe => exact me9
theorem u_translate : True := by (k_with "ctr" => ((with_reducible show wpAny _ _ (call (Value.ref 234) [_, _, _, _, _]) _ _ _); k_dflt (refine c_translate (t4 := 0) (t5 := 0) (by k_asm) (by k_asm) (by k_asm) (by k_asm) (by k_extra "base") (by k_asm) (by ktr_room) (by ktr_units) (by k_extra "walin") (by assumption) (by assumption) (by k_updF) (by omega) (by omega) (by k_extra "look") (by k_extra "look") (by k_extra "ise") (by omega) (by omega) (by k_extra "kind") ?_); intro ow' M9 t9 h' tk' F' N' d' mx9 me9; try dsimp only at N'; try dsimp only)); trivial
end
-- keys of ints and strs
def isMix : Int ⊕ Str → Value → Bool
  | .inl i, v => Value.isInt i v
  | .inr x, v => Value.isStrOf x v
def mixHash (w : World) : Int ⊕ Str → Int
  | .inl i => hashInt i
  | .inr x => hashStr w x
section
variable {prog : Program} {w : World} {A : Around} {E : Value → Shared → Prop} {s : Shared}
theorem eqb_int_str {a : Int} {b : Str} {t u : Tok} {Q : Bool → Shared → Prop} (h : Q false s) : wpAny (model prog w) A (eqBool (.int a t) (.str b u)) Q E s := by
  unfold eqBool
  try with_reducible refine wpAny_holding ?_
  show wpAny _ _ (if (Value.int a t == Value.str b u) = true then _ else _) Q E s
  rw [if_neg (by rw [show (Value.int a t == Value.str b u) = false from rfl]; exact Bool.false_ne_true)]
  exact wpAny_bind (show wpAny _ _ (richCompare .Eq _ _) _ _ _ from EqMixed.eq_int_str (wpAny_truthy_bool h))
theorem eqb_str_int {a : Int} {b : Str} {t u : Tok} {Q : Bool → Shared → Prop} (h : Q false s) : wpAny (model prog w) A (eqBool (.str b u) (.int a t)) Q E s := by
  unfold eqBool
  try with_reducible refine wpAny_holding ?_
  show wpAny _ _ (if (Value.str b u == Value.int a t) = true then _ else _) Q E s
  rw [if_neg (by rw [show (Value.str b u == Value.int a t) = false from rfl]; exact Bool.false_ne_true)]
  exact wpAny_bind (show wpAny _ _ (richCompare .Eq _ _) _ _ _ from EqMixed.eq_str_int (wpAny_truthy_bool h))
end
def mixKind (prog : Program) (w : World) : KeyKind prog w (Int ⊕ Str) where
  is := isMix
  hash := mixHash w
  inj := fun v a b ha hb => by
    cases a <;> cases b
    · exact congrArg _ (Value.isInt_inj v _ _ ha hb)
    · obtain ⟨t, rfl⟩ := Value.isInt_shape ha; cases hb
    · obtain ⟨t, rfl⟩ := Value.isInt_shape hb; cases ha
    · exact congrArg _ (Value.isStrOf_inj v _ _ ha hb)
  byValue := fun k v h => by
    cases k
    · obtain ⟨t, rfl⟩ := Value.isInt_shape h; rfl
    · obtain ⟨t, rfl⟩ := Value.isStrOf_shape h; rfl
  pyHash := fun {A E s k v Q} hv h => by
    cases k
    · obtain ⟨t, rfl⟩ := Value.isInt_shape hv; exact wpAny_pyHash_int h
    · obtain ⟨t, rfl⟩ := Value.isStrOf_shape hv; exact wpAny_pyHash_str h
  eqBool := fun {A E s a b u v Q} hu hv h => by
    rcases a with x | x <;> rcases b with y | y
    · obtain ⟨t, rfl⟩ := Value.isInt_shape hu
      obtain ⟨t', rfl⟩ := Value.isInt_shape hv
      refine wpAny_eqBool_int ?_
      show Q (decide (x = y)) _
      rw [show decide (x = y) = decide ((Sum.inl x : Int ⊕ Str) = Sum.inl y) from decide_eq_decide.mpr ⟨fun e => e ▸ rfl, fun e => Sum.inl.inj e⟩]
      exact h
    · obtain ⟨t, rfl⟩ := Value.isInt_shape hu
      obtain ⟨t', rfl⟩ := Value.isStrOf_shape hv
      exact eqb_int_str h
    · obtain ⟨t, rfl⟩ := Value.isStrOf_shape hu
      obtain ⟨t', rfl⟩ := Value.isInt_shape hv
      exact eqb_str_int h
    · obtain ⟨t, rfl⟩ := Value.isStrOf_shape hu
      obtain ⟨t', rfl⟩ := Value.isStrOf_shape hv
      refine wpAny_eqBool_str ?_
      rw [show decide (x = y) = decide ((Sum.inr x : Int ⊕ Str) = Sum.inr y) from decide_eq_decide.mpr ⟨fun e => e ▸ rfl, fun e => Sum.inr.inj e⟩]
      exact h
  «strs» := fun k x t v h => by
    cases k
    · cases h
    · rename_i y
      have hy : Value.isStrOf y (Value.str x t) = true := h
      obtain ⟨u, hu⟩ := Value.isStrOf_shape hy
      injection hu with hx
      subst hx
      cases v <;> rfl
abbrev MK (w : World) : HeapKind PySem.Challenge.rw_pf0221_01.prog w (List (Int ⊕ Str)) := tupleKind (mixKind PySem.Challenge.rw_pf0221_01.prog w)
abbrev MItems (w : World) : List (Int ⊕ Str) → List Value → Prop := ItemsAre (mixKind PySem.Challenge.rw_pf0221_01.prog w)
abbrev Xs := List (List (Int ⊕ Str) × Addr × Value)
abbrev tupO (its : Array Value) (n : Nat) : Obj := { cls := .type "tuple", data := .seq its n }
/-- an object that is a tuple key -/
def KeyO (w : World) (k : List (Int ⊕ Str)) (ko : Obj) : Prop := ∃ its n, ko = tupO its n ∧ MItems w k its.toList
def keyOf (vs : List Value) : List (Int ⊕ Str) := vs.map fun v => match v with | .int i _ => .inl i | .str x _ => .inr x | _ => .inl 0
def isKeyV (v : Value) : Bool := match v with | .int _ _ => true | .str _ _ => true | _ => false
theorem mix_int {w : World} (i : Int) (t : Tok) : (mixKind PySem.Challenge.rw_pf0221_01.prog w).is (.inl i) (.int i t) = true := by show Value.isInt i (.int i t) = true; simp [Value.isInt]
theorem mix_str {w : World} (x : Str) (t : Tok) : (mixKind PySem.Challenge.rw_pf0221_01.prog w).is (.inr x) (.str x t) = true := by show Value.isStrOf x (.str x t) = true; simp [Value.isStrOf]
theorem items_keyOf {w : World} : ∀ {vs : List Value}, vs.all isKeyV = true → MItems w (keyOf vs) vs
  | [], _ => .nil
  | v :: vs, h => by
    rw [List.all_cons, Bool.and_eq_true] at h
    cases v with
    | int i t => exact .cons (mix_int i t) (items_keyOf h.2)
    | str x t => exact .cons (mix_str x t) (items_keyOf h.2)
    | _ => exact absurd h.1 Bool.false_ne_true
theorem kq_newTuple {M : Model} {A : Around} {E Q : Value → Shared → Prop} {s : Shared} {h₀ : Heap} {L : Addr} {m : Str → Option Value} {news : List (Addr × Obj)} {vs : List Value} (w : World) (F : Fr h₀ L s.heap m) (N : News h₀ L s.heap news) (hi : vs.all isKeyV = true) (hz : vs.length ≤ 1000)
    (h : ∀ D ko h', Fr h₀ L h' m → News h₀ L h' ((D, ko) :: news) → (∀ p ∈ news, p.1 < D) → KeyO w (keyOf vs) ko → Q (.ref D) { s with heap := h' }) : wpAny M A (newTuple vs) Q E s :=
  kup_newTuple F N (fun D h' F' N' l => h D _ h' F' N' l ⟨vs.toArray, 0, rfl, by rw [List.toList_toArray]; exact items_keyOf hi⟩) (by rw [sizeLine_eq]; omega)
/-- a dict whose keys are tuples that lie in the ledger -/
def TupD (w : World) (tl : List (Addr × Obj)) (o : Obj) (xs : Xs) : Prop :=
  ∃ es ep, o.ExactDict ∧ o.data = .dict es ep ∧ es.toList = xs.map (entryOfKey (MK w)) ∧ (∀ x ∈ xs, ∃ ko, (x.2.1, ko) ∈ tl ∧ KeyO w x.1 ko) ∧ (xs.map (·.1)).Nodup
theorem TupD.mono {w : World} {tl tl' : List (Addr × Obj)} {o : Obj} {xs : Xs} (h : TupD w tl o xs) (s : ∀ p ∈ tl, p ∈ tl') : TupD w tl' o xs :=
  let ⟨es, ep, a, b, c, d, e⟩ := h
  ⟨es, ep, a, b, c, fun x hx => let ⟨ko, i, j⟩ := d x hx; ⟨ko, s _ i, j⟩, e⟩
section
variable {w : World} {A : Around} {E : Value → Shared → Prop} {s : Shared} {h₀ : Heap} {L d a : Addr} {m : Str → Option Value} {news tl : List (Addr × Obj)} {g : Obj → List (Addr × Obj)} {o : Obj} {xs : Xs} {k : List (Int ⊕ Str)} {ko : Obj}
theorem TupD.dictOf {h : Heap} (N : News h₀ L h news) (hp : (d, o) ∈ news) (ht : TupD w news o xs) : h.DictOfH (MK w) d xs :=
  let ⟨es, ep, a, b, c, e, f⟩ := ht
  ⟨o, es, ep, (N _ hp).1, a, b, c, fun x hx => let ⟨ko, i, its, n, q, j⟩ := e x hx; ⟨ko, its, n, (N _ i).1, q ▸ rfl, q ▸ rfl, j⟩, f⟩
theorem tup_is {h : Heap} (N : News h₀ L h news) (hk : (a, ko) ∈ news) (hi : KeyO w k ko) : (MK w).is h k a := let ⟨its, n, q, j⟩ := hi; ⟨ko, its, n, (N _ hk).1, q ▸ rfl, q ▸ rfl, j⟩
theorem tupd_get {Q : Value → Shared → Prop} (hu : A.units + 1 < cLine) (N : News h₀ L s.heap news) (hp : (d, o) ∈ news) (ht : TupD w tl o xs) (hs : ∀ p ∈ tl, p ∈ news) (lo : (d == sysModules) = false) (hk : (a, ko) ∈ news) (hi : KeyO w k ko)
    (h : ∀ tk', Q (((atKey xs k).map (·.2)).getD .none) { s with toks := tk' }) :
    wpAny (model PySem.Challenge.rw_pf0221_01.prog w) A (call (.builtin "dict.get") [.ref d, .ref a]) Q E s := by
  have hD := (ht.mono hs).dictOf N hp
  exact call_meetsIn PySem.F.slot_dict_get hD.typeIs PySem.F.entry_dict_get (PySem.F.args_dict_get_2 _ _) (meetsH_dict_get (MK w) d a lo) ⟨hu, k, xs, tup_is N hk hi, hD, h _⟩
theorem tupd_get0 {u : Tok} {Q : Value → Shared → Prop} (hu : A.units + 1 < cLine) (N : News h₀ L s.heap news) (hp : (d, o) ∈ news) (ht : TupD w tl o xs) (hs : ∀ p ∈ tl, p ∈ news) (lo : (d == sysModules) = false) (hk : (a, ko) ∈ news) (hi : KeyO w k ko)
    (h : ∀ tk', Q (((atKey xs k).map (·.2)).getD (.int 0 u)) { s with toks := tk' }) :
    wpAny (model PySem.Challenge.rw_pf0221_01.prog w) A (call (.builtin "dict.get") [.ref d, .ref a, .int 0 u]) Q E s := by
  have hD := (ht.mono hs).dictOf N hp
  exact call_meetsIn PySem.F.slot_dict_get hD.typeIs PySem.F.entry_dict_get (PySem.F.args_dict_get_3 _ _ _) (meetsH_dict_get_default (MK w) d a lo _) ⟨hu, k, xs, tup_is N hk hi, hD, h _⟩
theorem tupd_getm {pl : Sem Bool} {Q : Value × List Value → Shared → Prop} (N : News h₀ L s.heap news) (hp : (d, o) ∈ news) (ht : TupD w tl o xs) (h : Q (.builtin "dict.get", [.ref d]) s) :
    wpAny (model PySem.Challenge.rw_pf0221_01.prog w) A (getMethod (.ref d) "get" pl) Q E s := by
  obtain ⟨es, ep, a1, a2, a3, a4, a5⟩ := ht
  exact getMethod_builtin ⟨o, (N _ hp).1, a1.1⟩ PySem.F.plainAttrs_dict PySem.F.slot_dict_get PySem.F.type_dict_get (fun b e => by injection e with e; subst e; exact ⟨o, (N _ hp).1, a1.2.1⟩) h
theorem meets_tupd_len (hm : ∃ es ep, o.data = .dict es ep ∧ es.size = xs.length) (lo : (d == sysModules) = false) :
    MeetsIn PySem.Challenge.rw_pf0221_01.prog w (Builtin.«dict.__len__» ⟨[.ref d], []⟩) (fun _ R s => s.heap.get? d = some o ∧ R (.ok (.ret (.int xs.length s.toks))) { s with toks := s.toks + 1 }) :=
  .of_wp fun A R s ⟨ho, h⟩ => by
    obtain ⟨es, ep, hdat, hz⟩ := hm
    show wpAny _ _ (dictSize d >>= _) _ _ s
    unfold dictSize
    refine wpAny_bind (wpAny_bind (wpAny_dictEntries ho hdat (wpAny_pure ?_)))
    show wpAny _ _ (Builtin.Dict.pendingCount d >>= _) _ _ s
    refine wpAny_bind (wpAny_pendingCount_other lo ?_)
    refine wpAny_ret_mkInt ?_
    rw [Nat.add_zero, hz]; exact h
theorem tupd_len {Q : Value → Shared → Prop} (N : News h₀ L s.heap news) (hp : (d, o) ∈ news) (ht : TupD w tl o xs) (lo : (d == sysModules) = false) (hz : xs.length ≤ 1000) (h : ∀ t tk', Q (.int xs.length t) { s with toks := tk' }) :
    wpAny (model PySem.Challenge.rw_pf0221_01.prog w) A (call (.builtin "len") [.ref d]) Q E s := by
  obtain ⟨es, ep, a1, a2, a3, a4, a5⟩ := ht
  have hT : s.TypeIs (.ref d) "dict" := ⟨o, (N _ hp).1, a1.1⟩
  have hsz : es.size = xs.length := size_of_entries a3
  refine Calls.call_function_entry kind_len plain_len entry_len (args_len1 _) ?_
  unfold Builtin.«len»
  refine wpAny_bind (m := oneArg "len" _) (wpAny_pure ?_)
  refine wpAny_bind (m := callSpecial? (.ref d) (Str.ofString "__len__")) (wpAny_callSpecial?_slot (name := Str.ofString "__len__") hT PySem.F.slot_dict_len
    (call_meetsIn PySem.F.slot_dict_len hT PySem.F.entry_dict_len (PySem.F.args_dict_len_1 _) (meets_tupd_len ⟨es, ep, a2, hsz⟩ lo) ⟨(N _ hp).1, ?_⟩))
  show wpAny _ _ _ _ _ { s with toks := s.toks + 1 }
  refine wpAny_bind (wpAny_holding (wpAny_pure ?_))
  refine wpAny_bind (wpAny_letGo ?_)
  show wpAny _ _ (if ((xs.length : Nat) : Int) < 0 then _ else _) _ _ _
  rw [if_neg (by omega)]
  show wpAny _ _ (if ((xs.length : Nat) : Int) ≥ 2 ^ 63 then _ else _) _ _ _
  rw [if_neg (by omega)]
  exact wpAny_bind (wpAny_mkInt (wpAny_pure ⟨_, rfl, h _ _⟩))
theorem tupd_set {v : Value} {Q : Unit → Shared → Prop} (hu : A.units + 1 < cLine) (F : Fr h₀ L s.heap m) (N : News h₀ L s.heap news) (U : UpdF d o news g) (ht : TupD w tl o xs) (hs : ∀ p ∈ tl, p ∈ news) (hk : (a, ko) ∈ news) (hi : KeyO w k ko) (hz : xs.length ≤ 1000)
    (h : ∀ h' o', Fr h₀ L h' m → News h₀ L h' (g o') → TupD w ((a, ko) :: tl) o' (storedH xs k a v) → ∀ tk', Q () { s with heap := h', toks := tk' }) :
    wpAny (model PySem.Challenge.rw_pf0221_01.prog w) A (setItem (.ref d) (.ref a) v) Q E s := by
  obtain ⟨pre, post, rfl, hg, sp1, sp2⟩ := U.split
  have hm : (d, o) ∈ pre ++ (d, o) :: post := List.mem_append_right _ List.mem_cons_self
  have hD := (ht.mono hs).dictOf N hm
  have hN := N _ hm
  refine wpAny_setItem_heap (knd := MK w) hu (tup_is N hk hi) hD (fun h' hD' hs => ?_) (by rw [sizeLine_eq]; omega)
  obtain ⟨o', es', ep', b1, b2, b3, b4, b5, b6⟩ := hD'
  refine h h' o' (F.change hs hN.2.1 hN.2.2) (hg o' ▸ News.setIn N sp1 sp2 hs b1) ⟨es', ep', b2, b3, b4, fun x hx => ?_, b6⟩ _
  obtain ⟨_, _, _, _, _, c, _⟩ := ht
  have c' : ∀ x ∈ xs, ∃ ko₁, (x.2.1, ko₁) ∈ (a, ko) :: tl ∧ KeyO w x.1 ko₁ := fun x hx => let ⟨i, e, f⟩ := c x hx; ⟨i, List.mem_cons_of_mem _ e, f⟩
  unfold storedH at hx
  split at hx
  · obtain ⟨y, hy, rfl⟩ := List.mem_map.mp hx
    have := c' y hy
    unfold putAt
    split <;> exact this
  · rcases List.mem_append.mp hx with hx | hx
    · exact c' x hx
    · rw [List.mem_singleton.mp hx]; exact ⟨ko, List.mem_cons_self, hi⟩
theorem tupd_new : TupD w [] ({ cls := .type "dict", data := .dict #[] } : Obj) [] := ⟨#[], 0, ⟨rfl, rfl, rfl⟩, rfl, rfl, (fun x hx => absurd hx List.not_mem_nil), List.nodup_nil⟩
theorem atKey_mem {xs : Xs} {k : List (Int ⊕ Str)} {p : Addr × Value} (h : atKey xs k = some p) : (k, p) ∈ xs := by
  unfold atKey at h
  cases e : xs.find? (fun x => decide (x.1 = k)) with
  | none => rw [e] at h; cases h
  | some y =>
    rw [e] at h
    injection h with h
    have h1 := List.mem_of_find?_eq_some e
    have h2 : y.1 = k := of_decide_eq_true (List.find?_some (p := fun x : List (Int ⊕ Str) × Addr × Value => decide (x.1 = k)) e)
    rw [← h, ← h2]
    exact h1
/-- what a walker that keeps pages keeps -/
def qkey (pg : Int) (kd : Str) : List (Int ⊕ Str) := [.inl pg, .inr kd, .inl 0, .inl 0, .inl 0, .inl 960]
def Kn (fr : Int → Int) (xs : Xs) : Prop := ∀ x ∈ xs, ∃ pg kd t, x.1 = qkey pg kd ∧ x.2.2 = .int (16 * fr pg) t
theorem kn_get {fr : Int → Int} {pg : Int} {kd : Str} {Q : Value → Shared → Prop} (hn : Kn fr xs) (hu : A.units + 1 < cLine) (N : News h₀ L s.heap news) (hp : (d, o) ∈ news) (ht : TupD w tl o xs) (hs : ∀ p ∈ tl, p ∈ news) (lo : (d == sysModules) = false) (hk : (a, ko) ∈ news) (hi : KeyO w (qkey pg kd) ko)
    (h1 : ∀ t tk', Q (.int (16 * fr pg) t) { s with toks := tk' }) (h2 : atKey xs (qkey pg kd) = none → ∀ tk', Q .none { s with toks := tk' }) :
    wpAny (model PySem.Challenge.rw_pf0221_01.prog w) A (call (.builtin "dict.get") [.ref d, .ref a]) Q E s :=
  tupd_get hu N hp ht hs lo hk hi fun tk' => by
    cases e : atKey xs (qkey pg kd) with
    | none => exact h2 e tk'
    | some p =>
      obtain ⟨pg', kd', t, e1, e2⟩ := hn _ (atKey_mem e)
      have e3 : pg' = pg := by injection e1 with e3 _; injection e3 with e3; exact e3.symm
      subst e3
      show Q p.2 _
      rw [show p.2 = _ from e2]
      exact h1 t tk'
theorem Kn.add {fr : Int → Int} {pg : Int} {kd : Str} {v : Value} {t : Tok} (hn : Kn fr xs) (h : atKey xs (qkey pg kd) = none) (e : v = .int (16 * fr pg) t) (a : Addr) : Kn fr (storedH xs (qkey pg kd) a v) := by
  rw [storedH_new h]
  intro x hx
  rcases List.mem_append.mp hx with hx | hx
  · exact hn x hx
  · rw [List.mem_singleton.mp hx]; exact ⟨pg, kd, t, rfl, e⟩
theorem storedH_len {k : List (Int ⊕ Str)} {v : Value} (h : atKey xs k = none) : (storedH xs k a v).length = xs.length + 1 := by rw [storedH_new h, List.length_append, List.length_singleton]
end
def quickE (v : IV) (wk lay dk : Addr) : List DictEntry := [⟨v.k1, .str "walker" v.t1, .ref wk⟩, ⟨v.k2, .str "layout" v.t2, .ref lay⟩, ⟨v.k3, .str "room" v.t3, .int 5 v.u3⟩, ⟨v.k4, .str "known" v.t4, .ref dk⟩]
theorem put_known (v : IV) (wk lay dk d : Addr) (n : Nat) (hs : Int) (tk : Nat) : (putL (Str.ofString "known") hs (.str "known" tk) (.ref d) (quickE v wk lay dk), putN (Str.ofString "known") (quickE v wk lay dk) n) = (quickE v wk lay d, n) := by rfl
theorem tupd_empty {w : World} {tl : List (Addr × Obj)} {o : Obj} {prog : Program} (h : o.IsDictOf (PySem.strKind prog w) []) : TupD w tl o [] := by
  obtain ⟨es, ep, h1, h2, h3, h4, h5⟩ := h
  cases e : es.toList with
  | nil => exact ⟨es, ep, h1, h2, e, (fun x hx => absurd hx List.not_mem_nil), List.nodup_nil⟩
  | cons y r => rw [e] at h4; cases h4
theorem kn_set {w : World} {A : Around} {E : Value → Shared → Prop} {s : Shared} {h₀ : Heap} {L d a : Addr} {m : Str → Option Value} {news tl : List (Addr × Obj)} {g : Obj → List (Addr × Obj)} {o : Obj} {xs : Xs} {ko : Obj} {fr : Int → Int} {pg x : Int} {kd : Str} {t : Tok} {Q : Unit → Shared → Prop} (hu : A.units + 1 < cLine) (F : Fr h₀ L s.heap m) (N : News h₀ L s.heap news) (U : UpdF d o news g) (ht : TupD w tl o xs) (hs : ∀ p ∈ tl, p ∈ news) (hk : (a, ko) ∈ news) (hi : KeyO w (qkey pg kd) ko)
    (hn : Kn fr xs) (h0 : atKey xs (qkey pg kd) = none) (hz : xs.length < 5) (ev : x = 16 * fr pg)
    (h : ∀ h' o' xs' tk', Fr h₀ L h' m → News h₀ L h' (g o') → TupD w ((a, ko) :: tl) o' xs' → Kn fr xs' → xs'.length ≤ 5 → Q () { s with heap := h', toks := tk' }) :
    wpAny (model PySem.Challenge.rw_pf0221_01.prog w) A (setItem (.ref d) (.ref a) (.int x t)) Q E s :=
  tupd_set hu F N U ht hs hk hi (by omega) fun h' o' F' N' d' tk' => h h' o' _ tk' F' N' d' (hn.add h0 (by rw [ev]) a) (by rw [storedH_len h0]; omega)
theorem news_perm {h₀ h : Heap} {L : Addr} {l l' : List (Addr × Obj)} (N : News h₀ L h l) (s : ∀ p ∈ l', p ∈ l) : News h₀ L h l' := fun p hp => N p (s p hp)
local macro_rules | `(tactic| walk_at "setAttr ref") => `(tactic| (k_here; k_extra "setattr"))
local macro_rules | `(tactic| walk_at "newTuple") => `(tactic| (k_here; k_extra "newtup"))
local macro_rules | `(tactic| walk_at "setItem ref ref") => `(tactic| (k_here; k_extra "seti"))
local macro_rules | `(tactic| walk_at "call builtin:len") => `(tactic| (k_here; k_extra "len"))
theorem u_cw0 : True := by (k_with "newtup" => (k_dflt (refine' kq_newTuple w ?zzF ?zzN ?zzi ?zzz ?_; (case zzF => k_asm); (case zzN => k_asm); (case zzi => exact rfl); (case zzz => exact Nat.le_of_ble_eq_true rfl); k_whole); intro D' ko' h' F' N' l1 hko; (try k_lt l1); (try dsimp only [keyOf, List.map] at hko))); trivial
theorem u_cw1 : True := by (k_with "sub1" => (intro p9 hp9; repeat (first | assumption | exact hT1 _ (by assumption) | apply List.mem_cons_of_mem))); trivial
theorem u_cw2 : True := by (k_with "gm" => ((with_reducible show wpAny _ _ (getMethod (Value.ref _) (Str.ofString "get") _) _ _ _); k_dflt (refine' tupd_getm ?zzN ?zzm ?zzd ?_; (case zzN => k_asm); (case zzd => assumption); (case zzm => k_mem); k_whole))); trivial
theorem u_cw3 : True := by (k_with "dget" => ((with_reducible show wpAny _ _ (call (Value.builtin "dict.get") [Value.ref _, Value.ref _]) _ _ _); k_dflt (refine' kn_get ?zzhn ?zzu ?zzN ?zzm ?zzt ?zzq ?zzl ?zzk ?zzi ?_ ?_; (case zzhn => assumption); (case zzt => assumption); (case zzu => ktr_units); (case zzN => k_asm); (case zzm => k_mem); (case zzq => k_extra "sub1"); (case zzl => k_asm); (case zzk => k_mem); (case zzi => assumption); k_whole))); trivial
theorem u_cw4 : True := by (k_with "seti" => ((with_reducible show wpAny _ _ (setItem (Value.ref _) (Value.ref _) _) _ _ _); k_dflt (refine' kn_set ?zzu ?zzF ?zzN ?zzU ?zzt ?zzq ?zzk ?zzi ?zzh ?zz0 ?zzz ?zze ?_; (case zzu => ktr_units); (case zzF => k_asm); (case zzN => k_asm); (case zzt => assumption); (case zzh => assumption); (case zzU => k_updF); (case zzq => k_extra "sub1"); (case zzk => k_mem); (case zzi => assumption); (case zz0 => first | exact rfl | assumption); (case zzz => first | exact Nat.zero_lt_succ _ | omega); (case zze => omega)); intro h' ok' xs' tk' F' N' d' k9 l9; try dsimp only at N')); trivial
theorem u_cw5 : True := by (k_with "len" => ((with_reducible show wpAny _ _ (call (Value.builtin "len") [Value.ref _]) _ _ _); k_dflt (refine' tupd_len ?zzN ?zzm ?zzt ?zzl ?zzz ?_; (case zzN => k_asm); (case zzt => assumption); (case zzm => k_mem); (case zzl => k_asm); (case zzz => omega); k_whole); intro t9 tk9; try dsimp only)); trivial
theorem u_cw6 : True := by (k_with "setattr" => ((with_reducible show wpAny _ _ (setAttr (Value.ref _) (Str.ofString "known") (Value.ref _)) _ _ _); k_dflt (refine' set_dict ?y1 ?y2 ?y3 ?y4 ?y5 ?y6 ?y7 ?y8 ?y9 ?y10 (put_known ..) ?y12 ?y13 ?_; (case y1 => k_asm); (case y2 => k_asm); (case y3 => k_asm); (case y4 => k_inst); (case y5 => exact rfl); (case y6 => k_is); (case y7 => k_is); (case y8 => k_is); (case y9 => k_is); (case y10 => k_get); (case y12 => k_upd); (case y13 => exact Nat.le_of_ble_eq_true rfl); k_whole; intro h' F' N'))); trivial
theorem u_translate7 : True := by (k_with "ctr" => ((with_reducible show wpAny _ _ (call (Value.ref 234) [_, _, _, _, _, _, _]) _ _ _); k_dflt (refine c_translate7 (by k_asm) (by k_asm) (by k_asm) (by k_asm) (by k_extra "base") (by k_asm) (by ktr_room) (by ktr_units) (by k_extra "walin") (by assumption) (by assumption) (by k_updF) (by omega) (by omega) (by k_extra "look") (by k_extra "look") (by k_extra "ise") (by omega) (by omega) (by k_extra "kind") ?_); intro ow' M9 t9 h' tk' F' N' d' mx9 me9; try dsimp only at N'; try dsimp only)); trivial
section
variable {w : World} {p : Program} {loose : List Str} {mean : ExcName → Option Value} {mg mb : Str → Option Value} {dp un : Nat} {gd : Option (List Code)} {cn : Str} {cs : Scope} {a : Addr} {ccd : Value} {cl : List (Str × Addr)} {outer : List Env} {A₀ : Around} {base h₀ : Heap} {L : Addr} {m : Str → Option Value} {s : Shared} {Q E : Value → Shared → Prop} {news T T1 : List (Addr × Obj)} {g : Obj → List (Addr × Obj)} {wk dwk bus dbus ls lay dlay mem dmem dw qi dqk dk : Addr} {ow ok : Obj} {M fr : Int → Int} {v : IV} {n : Nat} {xs : Xs} {e : Int}
  (B : Below A₀ base outer h₀) (F : Fr h₀ L s.heap m) (X : (K w.params).In h₀) (T0 : Top p loose mean mg mb h₀) (hk : cs.kind = .function)
include B F X T0 hk
theorem c_qtr (N : News h₀ L s.heap ((dw, ow) :: (dqk, dictOf (quickE v wk lay dk) n) :: (dk, ok) :: T)) (hd : dp + 8 < recursionLimit) (hu : un + 64 < cLine)
    (hW : WalIn T wk dwk bus dbus ls lay dlay mem dmem dw) (hq : (qi, instObj 302 dqk) ∈ T) (hi : IntD w ow M) (lo : (dw == sysModules) = false) (lo2 : (dk == sysModules) = false)
    (sp1 : ∀ p ∈ T, p.1 ≠ dw) (sp2 : ∀ p ∈ T, p.1 ≠ dqk) (sp3 : ∀ p ∈ T, p.1 ≠ dk) (n1 : @Ne Nat dw dqk) (n2 : @Ne Nat dw dk) (n3 : @Ne Nat dqk dk)
    (hT1 : ∀ p ∈ T1, p ∈ T) (ht : TupD w T1 ok xs) (hn : Kn fr xs) (hz : xs.length ≤ 5)
    {i : Int} {k : Str} {t t1 t2 t3 : Tok} (i0 : 0 ≤ i) (i1 : i < 128) (h1 : M (240 + i / 64) = 1024 * (61 + i / 64) + 1) (h2 : M (244 + i / 16) = e) (he : IsE e (fr (i / 16))) (f0 : 0 ≤ fr (i / 16)) (f8 : fr (i / 16) < 8) (hk9 : k = "load" ∨ k = "store")
    (ret : ∀ ow' M' dk' ok' xs' D ko t h' tk', TupD w ((D, ko) :: T1) ok' xs' → Kn fr xs' → xs'.length ≤ 5 → IntD w ow' M' → (∀ x, x ≠ 244 + i / 16 → M' x = M x) → IsE (M' (244 + i / 16)) (fr (i / 16)) → (dk' == sysModules) = false → Fr h₀ L h' m →
      News h₀ L h' ((dw, ow') :: (dqk, dictOf (quickE v wk lay dk') n) :: (dk', ok') :: (D, ko) :: T) → (∀ p ∈ (dw, ow) :: (dqk, dictOf (quickE v wk lay dk) n) :: (dk, ok) :: T, p.1 < D) →
      (dk' = dk ∨ ∀ p ∈ (dw, ow) :: (dqk, dictOf (quickE v wk lay dk) n) :: (dk, ok) :: T, p.1 < dk') → @Ne Nat D dk' →
      Q (.int (16 * fr (i / 16) + i % 16) t) { s with heap := h', toks := tk' }) :
    wpAny (model PySem.Challenge.rw_pf0221_01.prog w) (ktrTop dp un gd cn cs L a ccd cl outer) (call (.ref 293) [.ref qi, .int 960 t, .int i t1, .str k t2, .int 0 t3]) Q E s := by
  have hW9 := hW
  obtain ⟨v1, v2, m1, m2, m3, m4, hl, hm, b1, b2, b3, b4, b5, b6⟩ := hW9
  have hl9 := hl
  obtain ⟨v3, hl1, hl2⟩ := hl9
  have lk1 := h1
  have lk2 := h2
  k_extra "enter"
  k_steps
  · rw [bor_16 f0 (by omega) (by omega)]
    refine ret _ _ _ _ _ D' ko' _ _ _ (TupD.mono ht fun p hp => List.mem_cons_of_mem _ hp) hn hz hi (fun x hx => rfl) (by rw [h2]; exact he) lo2 (by k_asm) (news_perm (by assumption) (List.forall_mem_cons.mpr ⟨by k_mem, (List.forall_mem_cons.mpr ⟨by k_mem, (List.forall_mem_cons.mpr ⟨by k_mem, (List.forall_mem_cons.mpr ⟨by k_mem, (by k_extra "sub1")⟩)⟩)⟩)⟩)) (of_allLt (by assumption)) (.inl rfl) (by omega)
  · have hte : TupD w T1 ‹Obj› [] := tupd_empty (by assumption)
    have hke : Kn fr [] := fun x hx => absurd hx List.not_mem_nil
    clear ht hn
    k_steps
    refine ret _ _ _ _ _ _ _ _ _ _ (by assumption) (by assumption) (by assumption) (by assumption) (by assumption) (by assumption) (by assumption) (by k_asm) (news_perm (by assumption) (List.forall_mem_cons.mpr ⟨by k_mem, (List.forall_mem_cons.mpr ⟨by k_mem, (List.forall_mem_cons.mpr ⟨by k_mem, (List.forall_mem_cons.mpr ⟨by k_mem, (by k_extra "sub1")⟩)⟩)⟩)⟩)) (of_allLt (by assumption)) (by first | exact .inl rfl | exact .inr (of_allLt (And.right (by assumption)))) (by omega)
  · refine ret _ _ _ _ _ _ _ _ _ _ (by assumption) (by assumption) (by assumption) (by assumption) (by assumption) (by assumption) (by assumption) (by k_asm) (news_perm (by assumption) (List.forall_mem_cons.mpr ⟨by k_mem, (List.forall_mem_cons.mpr ⟨by k_mem, (List.forall_mem_cons.mpr ⟨by k_mem, (List.forall_mem_cons.mpr ⟨by k_mem, (by k_extra "sub1")⟩)⟩)⟩)⟩)) (of_allLt (by assumption)) (by first | exact .inl rfl | exact .inr (of_allLt (And.right (by assumption)))) (by omega)
end
def tabE (v : IV) (mem lay pgs : Addr) : List DictEntry := [⟨v.k1, .str "memory" v.t1, .ref mem⟩, ⟨v.k2, .str "layout" v.t2, .ref lay⟩, ⟨v.k3, .str "pages" v.t3, .ref pgs⟩]
/-- the tables of a space -/
def TabIn (tl : List (Addr × Obj)) (tab dtab pgs lay dlay mem dmem dw : Addr) : Prop := ∃ v : IV, (tab, instObj 454 dtab) ∈ tl ∧ (dtab, dictOf (tabE v mem lay pgs) v.n) ∈ tl ∧ LayIn tl lay dlay ∧ MemIn tl mem dmem dw ∧ tab ≠ dw ∧ dtab ≠ dw ∧ lay ≠ dw ∧ dlay ≠ dw
theorem TabIn.mono {tl tl' : List (Addr × Obj)} {tab dtab pgs lay dlay mem dmem dw : Addr} (h : TabIn tl tab dtab pgs lay dlay mem dmem dw) (s : ∀ p ∈ tl, p.1 ≠ dw → p ∈ tl') : TabIn tl' tab dtab pgs lay dlay mem dmem dw := by
  obtain ⟨v, a1, a2, ⟨v2, a5, a6⟩, a7, b1, b2, b3, b4⟩ := h
  exact ⟨v, s _ a1 b1, s _ a2 b2, ⟨v2, s _ a5 b3, s _ a6 b4⟩, a7.mono s, b1, b2, b3, b4⟩
theorem u_tabin : True := by (k_with "tabin" => first | assumption | exact TabIn.mono (by assumption) (by k_extra "subn")); trivial
section
variable {w : World} {p : Program} {loose : List Str} {mean : ExcName → Option Value} {mg mb : Str → Option Value} {dp un : Nat} {gd : Option (List Code)} {cn : Str} {cs : Scope} {a : Addr} {ccd : Value} {cl : List (Str × Addr)} {outer : List Env} {A₀ : Around} {base h₀ : Heap} {L : Addr} {m : Str → Option Value} {s : Shared} {Q E : Value → Shared → Prop} {news tl : List (Addr × Obj)} {g : Obj → List (Addr × Obj)} {tab dtab pgs lay dlay mem dmem dw : Addr} {ow : Obj} {M : Int → Int}
  (B : Below A₀ base outer h₀) (F : Fr h₀ L s.heap m) (X : (K w.params).In h₀) (T : Top p loose mean mg mb h₀) (hk : cs.kind = .function)
include B F X T hk
theorem c_nparts (N : News h₀ L s.heap news) (hd : dp + 2 < recursionLimit) (hu : un + 16 < cLine) (hT : TabIn news tab dtab pgs lay dlay mem dmem dw) {i : Int} {t : Tok} (i0 : 0 ≤ i) (i1 : i < 256)
    (ret : ∀ q t1 t2 t3 h' tk', Fr h₀ L h' m → News h₀ L h' ((q, { cls := .type "tuple", data := .seq #[.int (i / 16 / 4) t1, .int (i / 16 % 4) t2, .int (i % 16) t3] 0 }) :: news) → (∀ p ∈ news, p.1 < q) → Q (.ref q) { s with heap := h', toks := tk' }) :
    wpAny (model PySem.Challenge.rw_pf0221_01.prog w) (ktrTop dp un gd cn cs L a ccd cl outer) (call (.ref 334) [.ref tab, .int i t]) Q E s := by
  obtain ⟨v1, m1, m2, ⟨v2, m3, m4⟩, ⟨v3, m5, m6, m7, m8⟩, b1, b2, b3, b4⟩ := hT
  have hl : LayIn news lay dlay := ⟨v2, m3, m4⟩
  k_extra "enter"
  k_steps
  refine' ret _ _ _ _ _ _ ?qa ?qb ?qc
  case qa => k_asm
  case qb => k_asm
  case qc => first | assumption | exact of_allLt (by assumption)
theorem u_nparts : True := by (k_with "ctr" => ((with_reducible show wpAny _ _ (call (Value.ref 334) _ _) _ _ _); k_dflt (refine c_nparts (by k_asm) (by k_asm) (by k_asm) (by k_asm) (by k_extra "base") (by k_asm) (by ktr_room) (by ktr_units) (by k_extra "tabin") (by omega) (by omega) ?_); intro q9 t91 t92 t93 h' tk' F' N' l9; (try k_lt l9); try dsimp only)); trivial
theorem c_twalk (N : News h₀ L s.heap news) (hd : dp + 3 < recursionLimit) (hu : un + 24 < cLine) (hT : TabIn news tab dtab pgs lay dlay mem dmem dw) (hw : (dw, ow) ∈ news) (hi : IntD w ow M) (lo : (dw == sysModules) = false) {i : Int} {t t1 : Tok} {b : Bool} (i0 : 0 ≤ i) (i1 : i < 128) (h1 : M (240 + i / 64) = 1024 * (61 + i / 64) + 1)
    (ret : ∀ t h' tk', Fr h₀ L h' m → News h₀ L h' news → Q (.int (4 * (244 + i / 16)) t) { s with heap := h', toks := tk' }) :
    wpAny (model PySem.Challenge.rw_pf0221_01.prog w) (ktrTop dp un gd cn cs L a ccd cl outer) (call (.ref 342) [.ref tab, .int 960 t, .int i t1, .bool b]) Q E s := by
  have hT' := hT
  obtain ⟨v1, m1, m2, hl, hm, b1, b2, b3, b4⟩ := hT'
  have hl9 := hl
  have hm9 := hm
  obtain ⟨v2, m3, m4⟩ := hl9
  obtain ⟨v3, m5, m6, m7, m8⟩ := hm9
  obtain ⟨e1, q1⟩ : ∃ e1, e1 = 1024 * (61 + i / 64) + 1 := ⟨_, rfl⟩
  rw [← q1] at h1
  have lk1 := h1
  obtain ⟨c1, c2⟩ := node_bits q1 (by omega)
  k_extra "enter"
  k_steps
  rw [show e1 / 1024 * 16 + 4 * (i / 16 % 4) = 4 * (244 + i / 16) by omega]
  refine' ret _ _ _ ?qa (news_drop ?qb)
  case qa => k_asm
  case qb => k_asm
theorem u_twalk : True := by (k_with "ctr" => ((with_reducible show wpAny _ _ (call (Value.ref 342) [_, _, _, _]) _ _ _); k_dflt (refine c_twalk (by k_asm) (by k_asm) (by k_asm) (by k_asm) (by k_extra "base") (by k_asm) (by ktr_room) (by ktr_units) (by k_extra "tabin") (by k_mem) (by assumption) (by assumption) (by omega) (by omega) (by k_extra "look") ?_); intro t9 h' tk' F' N'; try dsimp only)); trivial
theorem c_twalk3 (N : News h₀ L s.heap news) (hd : dp + 3 < recursionLimit) (hu : un + 24 < cLine) (hT : TabIn news tab dtab pgs lay dlay mem dmem dw) (hw : (dw, ow) ∈ news) (hi : IntD w ow M) (lo : (dw == sysModules) = false) {i : Int} {t t1 : Tok} (i0 : 0 ≤ i) (i1 : i < 128) (h1 : M (240 + i / 64) = 1024 * (61 + i / 64) + 1)
    (ret : ∀ t h' tk', Fr h₀ L h' m → News h₀ L h' news → Q (.int (4 * (244 + i / 16)) t) { s with heap := h', toks := tk' }) :
    wpAny (model PySem.Challenge.rw_pf0221_01.prog w) (ktrTop dp un gd cn cs L a ccd cl outer) (call (.ref 342) [.ref tab, .int 960 t, .int i t1]) Q E s := by
  have hT' := hT
  obtain ⟨v1, m1, m2, hl, hm, b1, b2, b3, b4⟩ := hT'
  have hl9 := hl
  have hm9 := hm
  obtain ⟨v2, m3, m4⟩ := hl9
  obtain ⟨v3, m5, m6, m7, m8⟩ := hm9
  obtain ⟨e1, q1⟩ : ∃ e1, e1 = 1024 * (61 + i / 64) + 1 := ⟨_, rfl⟩
  rw [← q1] at h1
  have lk1 := h1
  obtain ⟨c1, c2⟩ := node_bits q1 (by omega)
  k_extra "enter"
  k_steps
  rw [show e1 / 1024 * 16 + 4 * (i / 16 % 4) = 4 * (244 + i / 16) by omega]
  refine' ret _ _ _ ?qa (news_drop ?qb)
  case qa => k_asm
  case qb => k_asm
theorem u_twalk3 : True := by (k_with "ctr" => ((with_reducible show wpAny _ _ (call (Value.ref 342) [_, _, _]) _ _ _); k_dflt (refine c_twalk3 (by k_asm) (by k_asm) (by k_asm) (by k_asm) (by k_extra "base") (by k_asm) (by ktr_room) (by ktr_units) (by k_extra "tabin") (by k_mem) (by assumption) (by assumption) (by omega) (by omega) (by k_extra "look") ?_); intro t9 h' tk' F' N'; try dsimp only)); trivial
theorem c_tent (N : News h₀ L s.heap news) (hd : dp + 3 < recursionLimit) (hu : un + 24 < cLine) (hT : TabIn news tab dtab pgs lay dlay mem dmem dw) (hw : (dw, ow) ∈ news) (hi : IntD w ow M) (lo : (dw == sysModules) = false) {i : Int} {t t1 : Tok} (i0 : 0 ≤ i) (i1 : i < 128) (h1 : M (240 + i / 64) = 1024 * (61 + i / 64) + 1 ∨ M (240 + i / 64) = 0) (h2 : M (244 + i / 16) = 0)
    (ret : ∀ t h' tk', Fr h₀ L h' m → News h₀ L h' news → Q (.int 0 t) { s with heap := h', toks := tk' }) :
    wpAny (model PySem.Challenge.rw_pf0221_01.prog w) (ktrTop dp un gd cn cs L a ccd cl outer) (call (.ref 349) [.ref tab, .int 960 t, .int i t1]) Q E s := by
  have hT' := hT
  obtain ⟨v1, m1, m2, hl, hm, b1, b2, b3, b4⟩ := hT'
  have hl9 := hl
  have hm9 := hm
  obtain ⟨v2, m3, m4⟩ := hl9
  obtain ⟨v3, m5, m6, m7, m8⟩ := hm9
  have lk2 := h2
  rcases h1 with h1 | h1
  · obtain ⟨e1, q1⟩ : ∃ e1, e1 = 1024 * (61 + i / 64) + 1 := ⟨_, rfl⟩
    rw [← q1] at h1
    have lk1 := h1
    obtain ⟨c1, c2⟩ := node_bits q1 (by omega)
    k_extra "enter"
    k_steps
    refine' ret _ _ _ ?qa (news_drop ?qb)
    case qa => k_asm
    case qb => k_asm
  · have lk1 := h1
    k_extra "enter"
    k_steps
    refine' ret _ _ _ ?qc (news_drop ?qd)
    case qc => k_asm
    case qd => k_asm
theorem u_tent : True := by (k_with "ctr" => ((with_reducible show wpAny _ _ (call (Value.ref 349) _ _) _ _ _); k_dflt (refine c_tent (by k_asm) (by k_asm) (by k_asm) (by k_asm) (by k_extra "base") (by k_asm) (by ktr_room) (by ktr_units) (by k_extra "tabin") (by k_mem) (by assumption) (by assumption) (by omega) (by omega) (by assumption) (by k_extra "look") ?_); intro t9 h' tk' F' N'; try dsimp only)); trivial
theorem c_nflags (N : News h₀ L s.heap news) (hd : dp + 2 < recursionLimit) (hu : un + 16 < cLine) (hq : (tab, instObj 454 dtab) ∈ news) {t : Tok}
    (ret : ∀ h' tk', Fr h₀ L h' m → News h₀ L h' news → Q .none { s with heap := h', toks := tk' }) :
    wpAny (model PySem.Challenge.rw_pf0221_01.prog w) (ktrTop dp un gd cn cs L a ccd cl outer) (call (.ref 363) [.ref tab, .int 22 t]) Q E s := by
  have q1 : Builtin.bitAnd 22 (Builtin.bitNot 1023) = 0 := by decide
  have q2 : Builtin.bitAnd 22 10 = 2 := by decide
  have q3 : Builtin.bitOr 22 1 = 23 := by decide
  have q4 : Builtin.bitAnd (Builtin.bitOr 22 1) 6 = 6 := by decide
  have q5 : Builtin.bitOr 22 1 % 2 = 1 := by decide
  k_extra "enter"
  k_steps
  refine' ret _ _ ?qa ?qb
  case qa => k_asm
  case qb => k_asm
theorem u_nflags : True := by (k_with "ctr" => ((with_reducible show wpAny _ _ (call (Value.ref 363) _ _) _ _ _); k_dflt (refine c_nflags (by k_asm) (by k_asm) (by k_asm) (by k_asm) (by k_extra "base") (by k_asm) (by ktr_room) (by ktr_units) (by k_mem) ?_); intro h' tk' F' N'; try dsimp only)); trivial
theorem c_nplace (N : News h₀ L s.heap news) (hd : dp + 4 < recursionLimit) (hu : un + 32 < cLine) (hT : TabIn news tab dtab pgs lay dlay mem dmem dw) (hw : (dw, ow) ∈ news) (hi : IntD w ow M) (lo : (dw == sysModules) = false) {i e f : Int} {t t1 : Tok} (i0 : 0 ≤ i) (i1 : i < 128) (h1 : M (240 + i / 64) = 1024 * (61 + i / 64) + 1) (h2 : M (244 + i / 16) = e) (he : IsE e f) (f0 : 0 ≤ f) (f8 : f < 8)
    (ret : ∀ t h' tk', Fr h₀ L h' m → News h₀ L h' news → Q (.int (4 * (244 + i / 16)) t) { s with heap := h', toks := tk' }) :
    wpAny (model PySem.Challenge.rw_pf0221_01.prog w) (ktrTop dp un gd cn cs L a ccd cl outer) (call (.ref 384) [.ref tab, .int 960 t, .int i t1]) Q E s := by
  have hT' := hT
  obtain ⟨v1, m1, m2, hl, hm, b1, b2, b3, b4⟩ := hT'
  have hl9 := hl
  have hm9 := hm
  obtain ⟨v2, m3, m4⟩ := hl9
  obtain ⟨v3, m5, m6, m7, m8⟩ := hm9
  have lk1 := h1
  have lk2 := h2
  obtain ⟨c8, c9, c10, c11, c12⟩ := he.small f0 (by omega)
  k_extra "enter"
  k_steps
  refine' ret _ _ _ ?qa ?qb
  case qa => k_asm
  case qb => k_asm
theorem u_nplace : True := by (k_with "ctr" => ((with_reducible show wpAny _ _ (call (Value.ref 384) _ _) _ _ _); k_dflt (refine c_nplace (by k_asm) (by k_asm) (by k_asm) (by k_asm) (by k_extra "base") (by k_asm) (by ktr_room) (by ktr_units) (by k_extra "tabin") (by k_mem) (by assumption) (by assumption) (by omega) (by omega) (by k_extra "look") (by k_extra "look") (by k_extra "ise") (by omega) (by omega) ?_); intro t9 h' tk' F' N'; try dsimp only)); trivial
theorem c_move (N : News h₀ L s.heap news) (hd : dp + 5 < recursionLimit) (hu : un + 40 < cLine) (hT : TabIn news tab dtab pgs lay dlay mem dmem dw) (hi : IntD w ow M) (lo : (dw == sysModules) = false) (U : UpdF dw ow news g) {i e f x : Int} {t t1 t2 t3 : Tok} (i0 : 0 ≤ i) (i1 : i < 128) (i2 : i % 16 = 0) (h1 : M (240 + i / 64) = 1024 * (61 + i / 64) + 1) (h2 : M (244 + i / 16) = e) (he : IsE e f) (f0 : 0 ≤ f) (f8 : f < 8) (x0 : 0 ≤ x) (x8 : x < 8)
    (ret : ∀ ow' M' t h' tk', Fr h₀ L h' m → News h₀ L h' (g ow') → IntD w ow' M' → (∀ y, y ≠ 244 + i / 16 → M' y = M y) → IsE (M' (244 + i / 16)) x → Q (.int (16 * f) t) { s with heap := h', toks := tk' }) :
    wpAny (model PySem.Challenge.rw_pf0221_01.prog w) (ktrTop dp un gd cn cs L a ccd cl outer) (call (.ref 406) [.ref tab, .int 960 t, .int i t1, .int (16 * x) t2, .int 22 t3]) Q E s := by
  obtain ⟨tl, mv1, mv2, _, mv⟩ := upd_move U
  have N2 := (mv _ _ _).1 N
  have hT9 := hT.mono mv2
  clear N hT
  have hT' := hT9
  obtain ⟨v1, m1, m2, hl, hm, b1, b2, b3, b4⟩ := hT'
  have hl9 := hl
  have hm9 := hm
  obtain ⟨v2, m3, m4⟩ := hl9
  obtain ⟨v3, m5, m6, m7, m8⟩ := hm9
  have lk1 : M (240 + (i - i % 16) / 64) = 1024 * (61 + (i - i % 16) / 64) + 1 := by rw [show i - i % 16 = i by omega]; exact h1
  have lk2 : M (244 + (i - i % 16) / 16) = e := by rw [show i - i % 16 = i by omega]; exact h2
  obtain ⟨c8, c9, c10, c11, c12⟩ := he.small f0 (by omega)
  have q3 : Builtin.bitOr 22 1 = 23 := by decide
  k_extra "enter"
  k_steps
  rw [show e / 1024 * 16 = 16 * f by omega]
  refine' ret _ _ _ _ _ ?qa ((mv _ _ _).2 _ ?qb) ?qc ?qd ?qe
  case qa => k_asm
  case qb => k_asm
  case qc => assumption
  case qd => intro y hy; simp only [put]; rw [if_neg (by omega)]
  case qe => simp only [put]; rw [if_pos (by omega)]; exact .inl (by omega)
theorem u_move : True := by (k_with "ctr" => ((with_reducible show wpAny _ _ (call (Value.ref 406) _ _) _ _ _); k_dflt (refine c_move (by k_asm) (by k_asm) (by k_asm) (by k_asm) (by k_extra "base") (by k_asm) (by ktr_room) (by ktr_units) (by k_extra "tabin") (by assumption) (by assumption) (by k_updF) (by omega) (by omega) (by omega) (by k_extra "look") (by k_extra "look") (by k_extra "ise") (by omega) (by omega) (by omega) (by omega) ?_); intro ow' M9 t9 h' tk' F' N' d' mx9 me9; try dsimp only at N'; try dsimp only)); trivial
theorem c_map (N : News h₀ L s.heap news) (hd : dp + 5 < recursionLimit) (hu : un + 40 < cLine) (hT : TabIn news tab dtab pgs lay dlay mem dmem dw) (hi : IntD w ow M) (lo : (dw == sysModules) = false) (U : UpdF dw ow news g) {i x : Int} {t t1 t2 t3 : Tok} (i0 : 0 ≤ i) (i1 : i < 128) (i2 : i % 16 = 0) (h1 : M (240 + i / 64) = 1024 * (61 + i / 64) + 1) (h2 : M (244 + i / 16) = 0) (x0 : 0 ≤ x) (x8 : x < 8)
    (ret : ∀ ow' M' h' tk', Fr h₀ L h' m → News h₀ L h' (g ow') → IntD w ow' M' → (∀ y, y ≠ 244 + i / 16 → M' y = M y) → IsE (M' (244 + i / 16)) x → Q .none { s with heap := h', toks := tk' }) :
    wpAny (model PySem.Challenge.rw_pf0221_01.prog w) (ktrTop dp un gd cn cs L a ccd cl outer) (call (.ref 370) [.ref tab, .int 960 t, .int i t1, .int (16 * x) t2, .int 22 t3]) Q E s := by
  obtain ⟨tl, mv1, mv2, _, mv⟩ := upd_move U
  have N2 := (mv _ _ _).1 N
  have hT9 := hT.mono mv2
  clear N hT
  have hT' := hT9
  obtain ⟨v1, m1, m2, hl, hm, b1, b2, b3, b4⟩ := hT'
  have hl9 := hl
  have hm9 := hm
  obtain ⟨v2, m3, m4⟩ := hl9
  obtain ⟨v3, m5, m6, m7, m8⟩ := hm9
  have lk1 := h1
  have lk2 := h2
  have hor : M (240 + i / 64) = 1024 * (61 + i / 64) + 1 ∨ M (240 + i / 64) = 0 := .inl h1
  have q3 : Builtin.bitOr 22 1 = 23 := by decide
  k_extra "enter"
  k_steps
  refine' ret _ _ _ _ ?qa ((mv _ _ _).2 _ ?qb) ?qc ?qd ?qe
  case qa => k_asm
  case qb => k_asm
  case qc => assumption
  case qd => intro y hy; simp only [put]; rw [if_neg (by omega)]
  case qe => simp only [put]; rw [if_pos (by omega)]; exact .inl (by omega)
theorem u_map : True := by (k_with "ctr" => ((with_reducible show wpAny _ _ (call (Value.ref 370) _ _) _ _ _); k_dflt (refine c_map (by k_asm) (by k_asm) (by k_asm) (by k_asm) (by k_extra "base") (by k_asm) (by ktr_room) (by ktr_units) (by k_extra "tabin") (by assumption) (by assumption) (by k_updF) (by omega) (by omega) (by omega) (by k_extra "look") (by k_extra "look") (by omega) (by omega) ?_); intro ow' M9 h' tk' F' N' d' mx9 me9; try dsimp only at N'; try dsimp only)); trivial
end
-- iterating over a dict whose keys are whatever they are
section
variable {prog : Program} {w : World} {A : Around} {E : Value → Shared → Prop} {s : Shared}
theorem iterR {d : Addr} {o : Obj} {es : Array DictEntry} {ep : Nat} {Q : Value → Shared → Prop} (hd : (d == sysModules) = false) (ho : s.heap.get? d = some o) (hc : o.cls = .type "dict") (hdat : o.data = .dict es ep)
    (hQ : Q (.ref s.heap.objs.size) { s with heap := s.heap.push { cls := .type "dict_keyiterator", data := .fields #[.ref d, .int 0 0, .int es.size 0, .int ep 0] } }) :
    wpAny (model prog w) A (pyIter (.ref d)) Q E s := by
  have hT : s.TypeIs (.ref d) "dict" := ⟨o, ho, hc⟩
  refine wpAny_pyIter_slot hT PySem.F.slot_dict_iter (wpAny_call_entry PySem.F.slot_dict_iter hT PySem.F.entry_dict_iter ?_ (PySem.F.args_dict_iter_1 _))
  unfold Builtin.«dict.__iter__»
  refine wpAny_bind ?_
  unfold Builtin.Dict.dictSlotNone
  refine wpAny_bind (wpAny_notOrdered_dict hT ?_)
  show wpAny _ _ (pure (Value.ref d)) _ _ s
  refine wpAny_pure ?_
  show wpAny _ _ (Builtin.Dict.showsAll d >>= _) _ _ s
  unfold Builtin.Dict.showsAll
  rw [if_neg (by rw [hd]; exact Bool.false_ne_true)]
  refine wpAny_bind (wpAny_pure ?_)
  refine wpAny_bind (wpAny_dictEntries ho hdat ?_)
  refine wpAny_bind (wpAny_dictEpoch ho hdat ?_)
  refine wpAny_bind (wpAny_newObj_type (wpAny_pure ⟨_, rfl, "dict_keyiterator", _, ⟨_, Heap.get?_push_size _ rfl, rfl⟩, PySem.F.slot_dict_keyiterator_next.lookup, ?_⟩))
  simpa [rawInt] using hQ
theorem nextR {it d : Addr} {i ep : Nat} {od : Obj} {es : Array DictEntry} {Q : Option Value → Shared → Prop} (hit : s.heap.IsKeyIter it d i es.size ep) (hod : s.heap.get? d = some od) (hdd : od.data = .dict es ep) (hlt' : i < es.size)
    (hQ : ∀ h', h'.IsKeyIter it d (i + 1) es.size ep → Heap.SameBut it s.heap h' → Q (some es[i].key) { s with heap := h' }) :
    wpAny (model prog w) A (pyNext (.ref it)) Q E s := by
  obtain ⟨o, ho, hc, hd⟩ := id hit
  unfold pyNext
  refine wpAny_bind (wpAny_attempt (wpAny_callSpecial?_slot (name := Str.ofString "__next__") hit.typeIs PySem.F.slot_dict_keyiterator_next
    (wpAny_call_entry PySem.F.slot_dict_keyiterator_next hit.typeIs PySem.F.entry_dict_keyiterator_next ?_ (PySem.F.args_dict_keyiterator_next_1 _))))
  refine wpAny_bind (wpAny_pure ?_)
  refine wpAny_bind ?_
  refine wpAny_bind ?_
  first | refine wpAny_bind (wpAny_typeNameOfWhole_keyiter hit.typeIs (wpAny_pure ?_)) | refine wpAny_bind (wpAny_typeNameOf_keyiter hit.typeIs (wpAny_pure ?_))
  refine wpAny_bind (wpAny_fieldsOf ho hd ?_)
  have hown : Builtin.Dict_items.ownsTuple "dict_keyiterator" = false := by decide
  simp only [hown, Bool.false_eq_true, if_false]
  show wpAny _ _ (if (Value.ref d == Value.none) = true then _ else _) _ _ s
  rw [if_neg (show ¬ ((Value.ref d == Value.none) = true) from Bool.false_ne_true)]
  refine wpAny_bind (wpAny_pure ?_)
  refine wpAny_bind (wpAny_dictEntries hod hdd ?_)
  rw [if_neg (by simp)]
  refine wpAny_bind (wpAny_pure ?_)
  refine wpAny_bind (wpAny_dictEpoch hod hdd ?_)
  rw [if_neg (by simp)]
  refine wpAny_pure ?_
  simp only [show ¬ ((i : Int) < 0) from by omega, if_false, Int.toNat_natCast, Array.getElem?_eq_getElem hlt']
  refine wpAny_bind ?_
  first | refine wpAny_bind (wpAny_typeNameOfWhole_keyiter hit.typeIs (wpAny_pure ?_)) | refine wpAny_bind (wpAny_typeNameOf_keyiter hit.typeIs (wpAny_pure ?_))
  refine wpAny_bind (wpAny_isOneOf_keyiter hit.typeIs ?_)
  show wpAny _ _ (setField (.ref it) 1 (rawInt ((i : Int) + 1)) >>= _) _ _ s
  refine wpAny_bind (wpAny_setField ho hd (by simp) ?_)
  have hit' : (s.heap.update it (Obj.mapFields (·.setIfInBounds 1 (rawInt ((i : Int) + 1))))).IsKeyIter it d (i + 1) es.size ep :=
    ⟨_, Heap.get?_update_self _ ho (Obj.isFreed_of_fields (Obj.data_mapFields hd _)), (Obj.cls_mapFields ..).trans hc, by rw [Obj.data_mapFields hd]; simp [rawInt]⟩
  refine wpAny_bind (wpAny_holding ?_)
  refine wpAny_bind (wpAny_isOneOf_keyiter (s := { s with heap := s.heap.update it (Obj.mapFields (·.setIfInBounds 1 (rawInt ((i : Int) + 1)))) }) hit'.typeIs ?_)
  show wpAny _ _ (pure es[i].key) _ _ _
  exact wpAny_pure (wpAny_pure ⟨_, rfl, wpAny_pure (hQ _ hit' (Heap.SameBut.update ..))⟩)
theorem nextR_end {it d : Addr} {ep : Nat} {od : Obj} {es : Array DictEntry} {Q : Option Value → Shared → Prop} (hh : A.handled = none) (hit : s.heap.IsKeyIter it d es.size es.size ep) (hod : s.heap.get? d = some od) (hdd : od.data = .dict es ep)
    (hQ : ∀ h', Heap.ExtBut it s.heap h' → Q none { s with heap := h' }) : wpAny (model prog w) A (pyNext (.ref it)) Q E s := by
  obtain ⟨o, ho, hc, hd⟩ := id hit
  unfold pyNext
  refine wpAny_bind (wpAny_attempt (wpAny_callSpecial?_slot (name := Str.ofString "__next__") hit.typeIs PySem.F.slot_dict_keyiterator_next
    (wpAny_call_entry PySem.F.slot_dict_keyiterator_next hit.typeIs PySem.F.entry_dict_keyiterator_next ?_ (PySem.F.args_dict_keyiterator_next_1 _))))
  refine wpAny_bind (wpAny_pure ?_)
  refine wpAny_bind ?_
  refine wpAny_bind ?_
  first | refine wpAny_bind (wpAny_typeNameOfWhole_keyiter hit.typeIs (wpAny_pure ?_)) | refine wpAny_bind (wpAny_typeNameOf_keyiter hit.typeIs (wpAny_pure ?_))
  refine wpAny_bind (wpAny_fieldsOf ho hd ?_)
  have hown : Builtin.Dict_items.ownsTuple "dict_keyiterator" = false := by decide
  simp only [hown, Bool.false_eq_true, if_false]
  show wpAny _ _ (if (Value.ref d == Value.none) = true then _ else _) _ _ s
  rw [if_neg (show ¬ ((Value.ref d == Value.none) = true) from Bool.false_ne_true)]
  refine wpAny_bind (wpAny_pure ?_)
  refine wpAny_bind (wpAny_dictEntries hod hdd ?_)
  rw [if_neg (by simp)]
  refine wpAny_bind (wpAny_pure ?_)
  refine wpAny_bind (wpAny_dictEpoch hod hdd ?_)
  rw [if_neg (by simp)]
  refine wpAny_pure ?_
  simp only [show ¬ ((es.size : Int) < 0) from by omega, if_false, Int.toNat_natCast, Array.getElem?_eq_none (Nat.le_refl es.size)]
  refine wpAny_bind ?_
  first | refine wpAny_bind (wpAny_typeNameOfWhole_keyiter hit.typeIs (wpAny_pure ?_)) | refine wpAny_bind (wpAny_typeNameOf_keyiter hit.typeIs (wpAny_pure ?_))
  show wpAny _ _ (setField (.ref it) 0 .none >>= _) _ _ s
  refine wpAny_bind (wpAny_setField ho hd (by simp) ?_)
  show wpAny _ _ (newExc (.type "StopIteration") [] >>= _) _ _ _
  refine wpAny_bind ?_
  simp only [newExc, newTuple]
  refine wpAny_bind (wpAny_newObj_type ?_ (by size_fits))
  refine wpAny_bind (m := firstArgMember _ _) (wpAny_of_eq (a := Value.none) (by first | rfl | (simp only [firstArgMember]; rfl)) ?_)
  refine wpAny_newObj_type ?_ (by size_fits)
  simp only [raiseNew]
  refine wpAny_bind (wpAny_handled ?_)
  rw [show A.in1.handled = none from hh]
  refine wpAny_bind (wpAny_pure (wpAny_throw ?_))
  refine wpAny_bind (wpAny_isInstance (T := "StopIteration") (b := true) ⟨_, Heap.get?_push_size _ rfl, rfl⟩ isSubtype_stop ?_)
  exact wpAny_pure (hQ _ (((Heap.SameBut.update ..).extBut.push _).push _))
end
theorem tupd_dictSet {w : World} {A : Around} {E : Value → Shared → Prop} {s : Shared} {h₀ : Heap} {L D a : Addr} {news : List (Addr × Obj)} {oD ko : Obj} {ys : Xs} {k : List (Int ⊕ Str)} {v : Value} {Q : Unit → Shared → Prop} (hu : A.units < cLine) (N : News h₀ L s.heap news) (hD : s.heap.get? D = some oD) (ht : TupD w news oD ys)
    (hk : (a, ko) ∈ news) (hi : KeyO w k ko) (hz : ys.length ≤ 1000)
    (h : ∀ h' oD' tk', Heap.SameBut D s.heap h' → h'.get? D = some oD' → TupD w news oD' (storedH ys k a v) → Q () { s with heap := h', toks := tk' }) :
    wpAny (model PySem.Challenge.rw_pf0221_01.prog w) A (dictSet D (.ref a) v) Q E s := by
  obtain ⟨es, ep, a1, a2, a3, c, a5⟩ := ht
  have hDd : s.heap.DictOfH (MK w) D ys := ⟨oD, es, ep, hD, a1, a2, a3, (fun x hx => let ⟨ko, i, j⟩ := c x hx; tup_is N i j), a5⟩
  refine wpAny_dictSet_heap (knd := MK w) hu (tup_is N hk hi) hDd (fun h' hD' hs => ?_) (by rw [sizeLine_eq]; omega)
  obtain ⟨o', es', ep', b1, b2, b3, b4, b5, b6⟩ := hD'
  refine h h' o' _ hs b1 ⟨es', ep', b2, b3, b4, fun x hx => ?_, b6⟩
  unfold storedH at hx
  split at hx
  · obtain ⟨y, hy, rfl⟩ := List.mem_map.mp hx
    have := c y hy
    unfold putAt
    split <;> exact this
  · rcases List.mem_append.mp hx with hx | hx
    · exact c x hx
    · rw [List.mem_singleton.mp hx]; exact ⟨ko, hk, hi⟩
theorem atKey_none {xs : Xs} {k : List (Int ⊕ Str)} (h : k ∉ xs.map (·.1)) : atKey xs k = none := by
  cases e : atKey xs k with
  | none => rfl
  | some p => exact absurd (List.mem_map.mpr ⟨_, atKey_mem e, rfl⟩) h
theorem take_succ {α : Type} (l : List α) (i : Nat) (h : i < l.length) : l.take (i + 1) = l.take i ++ [l[i]] := by rw [List.take_add_one]; simp [h]
section
variable {w : World} {A : Around} {E : Value → Shared → Prop} {s : Shared} {R : Result → Shared → Prop} {h₀ : Heap} {L d I D C : Addr} {m m₁ : Str → Option Value} {news : List (Addr × Obj)} {o oD₀ : Obj} {xs : Xs} {es : Array DictEntry} {ep : Nat} {kx vx iter tst : Expr} {x : Str} {px pos : Pos} {scope : Scope} {cenv : Env}
theorem dloop_H (pz : List (Int ⊕ Str) × Addr × Value → Bool) (hh : A.handled = none) (hu : A.units < cLine) (hx : cenv.kindOf x = some .local) (hp : (cenv.scope.kind == .class || (cenv.scope.kind == .module && cenv.locals != cenv.globals)) = false)
    (hC : cenv.locals = C) (n1 : I ≠ D) (n2 : I ≠ C) (n3 : D ≠ C) (l1 : I ≠ L) (l2 : D ≠ L) (l3 : C ≠ L) (z1 : h₀.get? I = none) (z2 : h₀.get? D = none) (z3 : h₀.get? C = none) (off : ∀ p ∈ news, p.1 ≠ I ∧ p.1 ≠ D ∧ p.1 ≠ C)
    (F : Fr h₀ L s.heap m) (N : News h₀ L s.heap news) (hd : (d, o) ∈ news) (hdat : o.data = .dict es ep) (he : es.toList = xs.map (entryOfKey (MK w))) (hks : ∀ y ∈ xs, ∃ ko, (y.2.1, ko) ∈ news ∧ KeyO w y.1 ko) (hnd : (xs.map (·.1)).Nodup) (hz : xs.length ≤ 1000)
    (hit : s.heap.IsKeyIter I d 0 es.size ep) (hD : s.heap.get? D = some oD₀) (ht : TupD w news oD₀ []) (hn : s.heap.Ns C m₁)
    (leaf : ∀ y ∈ xs, ∀ oC m₂ h tk E', LCg.NsObj oC m₂ → m₂ x = some (.ref y.2.1) → Fr h₀ L h m → News h₀ L h ((C, oC) :: news) →
      wpAny (model PySem.Challenge.rw_pf0221_01.prog w) A (isTrue tst cenv (eval tst cenv)) (fun b s' => b = pz y ∧ ∃ tk', s' = { s with heap := h, toks := tk' }) E' { s with heap := h, toks := tk } ∧
      wpAny (model PySem.Challenge.rw_pf0221_01.prog w) A (eval kx cenv) (fun v s' => v = .ref y.2.1 ∧ ∃ tk', s' = { s with heap := h, toks := tk' }) E' { s with heap := h, toks := tk } ∧
      wpAny (model PySem.Challenge.rw_pf0221_01.prog w) A (eval vx cenv) (fun v s' => v = y.2.2 ∧ ∃ tk', s' = { s with heap := h, toks := tk' }) E' { s with heap := h, toks := tk })
    (hR : ∀ h' tk m' oD, Fr h₀ L h' m → News h₀ L h' news → h'.get? D = some oD → h'.Ns C m' → TupD w news oD (xs.filter pz) → R (.ok .next) { s with heap := h', toks := tk }) :
    codeAny (model PySem.Challenge.rw_pf0221_01.prog w) A (.compLoop (.DictComp kx vx [⟨.Name x px, iter, [tst], 0⟩] scope pos) 0 (.ref I) (.ref D) cenv) R s := by
  subst hC
  have hsz : es.size = xs.length := size_of_entries he
  refine codeAny_compLoop_testsD
    (fun k s' => ∃ h' tk i m' oD, s' = { s with heap := h', toks := tk } ∧ i ≤ xs.length ∧ k = xs.length + 1 - i ∧ h'.IsKeyIter I d i es.size ep ∧ Fr h₀ L h' m ∧ News h₀ L h' news ∧ h'.Ns cenv.locals m' ∧ h'.get? D = some oD ∧ TupD w news oD ((xs.take i).filter pz)) ?_ (xs.length + 1)
    ⟨s.heap, s.toks, 0, m₁, oD₀, rfl, Nat.zero_le _, rfl, hit, F, N, hn, hD, by rw [List.take_zero]; exact ht⟩
  rintro k s' ⟨h', tk, i, m', oD, rfl, hi, rfl, hit', F', N', hn', hD', ht'⟩
  by_cases hlt : i < xs.length
  · have hlt' : i < es.size := by omega
    refine nextR hit' (N' _ hd).1 hdat hlt' fun h₂ hit₂ hs₂ => ?_
    have hkey : es[i].key = .ref xs[i].2.1 := by
      have := entry_at he i
      rw [Array.getElem?_eq_getElem hlt', List.getElem?_eq_getElem hlt] at this
      injection this with this
      rw [this]; rfl
    have hmem : xs[i] ∈ xs := List.getElem_mem hlt
    obtain ⟨ko, hko, hKO⟩ := hks _ hmem
    show wpAny _ _ (assign (.Name x px) cenv es[i].key) _ _ _
    rw [hkey]
    refine wpAny_assign_Name (wpAny_storeName_local hx (hn'.at' fun o e => hs₂.extBut _ o (Ne.symm n2) e) (fun h₃ hn₃ hs₃ => ?_) hp)
    have F₂ : Fr h₀ L h₂ m := F'.change hs₂ l1 z1
    have F₃ : Fr h₀ L h₃ m := F₂.change hs₃ l3 z3
    have N₃ : News h₀ L h₃ news := fun p hp => ⟨hs₃.extBut _ _ (off p hp).2.2 (hs₂.extBut _ _ (off p hp).1 (N' p hp).1), (N' p hp).2⟩
    have hD₃ : h₃.get? D = some oD := hs₃.extBut _ _ n3 (hs₂.extBut _ _ (Ne.symm n1) hD')
    have hit₃ : h₃.IsKeyIter I d (i + 1) es.size ep := hit₂.extBut hs₃.extBut n2
    obtain ⟨oC, heC, hoC⟩ := LCg.ns_obj hn₃
    have NC : News h₀ L h₃ ((cenv.locals, oC) :: news) := fun p hp => by
      rcases List.mem_cons.mp hp with rfl | hp
      · exact ⟨heC, l3, z3⟩
      · exact N₃ p hp
    rw [List.forIn_cons]
    simp only [if_true]
    refine wpAny_bind (wpAny_bind (wpAny_mono (leaf _ hmem oC _ h₃ _ _ hoC (by simp) F₃ NC).1 (fun b s₃ hb => ?_) fun _ _ e => e))
    obtain ⟨rfl, tk₃, rfl⟩ := hb
    refine wpAny_pure ?_
    dsimp only
    rw [List.forIn_nil]
    refine wpAny_pure ?_
    have htk := take_succ xs i hlt
    cases hpz : pz xs[i] with
    | false =>
      simp only [Bool.false_eq_true, if_false]
      refine ⟨xs.length + 1 - (i + 1), by omega, h₃, tk₃, i + 1, _, oD, rfl, hlt, rfl, hit₃, F₃, N₃, hn₃, hD₃, ?_⟩
      rw [htk, List.filter_append]
      simpa [hpz] using ht'
    | true =>
      simp only [if_true]
      refine wpAny_mono (leaf _ hmem oC _ h₃ _ _ hoC (by simp) F₃ NC).2.1 (fun v s₄ hv => ?_) fun _ _ e => e
      obtain ⟨rfl, tk₄, rfl⟩ := hv
      refine wpAny_mono (leaf _ hmem oC _ h₃ _ _ hoC (by simp) F₃ NC).2.2 (fun v s₅ hv => ?_) fun _ _ e => e
      obtain ⟨rfl, tk₅, rfl⟩ := hv
      have hlen : ((xs.take i).filter pz).length ≤ 1000 := Nat.le_trans (List.length_filter_le _ _) (Nat.le_trans (by rw [List.length_take]; omega) hz)
      refine tupd_dictSet (k := xs[i].1) hu N₃ hD₃ ht' hko hKO hlen fun h₆ oD' tk₆ hs₆ hD₆ ht₆ => ?_
      have N₆ : News h₀ L h₆ news := fun p hp => ⟨hs₆.extBut _ _ (off p hp).2.1 (N₃ p hp).1, (N₃ p hp).2⟩
      refine ⟨xs.length + 1 - (i + 1), by omega, h₆, tk₆, i + 1, _, oD', rfl, hlt, rfl, hit₃.extBut hs₆.extBut n1, F₃.change hs₆ l2 z2, N₆, hn₃.sameBut hs₆ (Ne.symm n3), hD₆, ?_⟩
      have hnone : atKey ((xs.take i).filter pz) xs[i].1 = none := atKey_none fun hm => by
        obtain ⟨y, hy, e⟩ := List.mem_map.mp hm
        have hy := (List.mem_filter.mp hy).1
        rw [show xs = xs.take i ++ xs.drop i from (List.take_append_drop i xs).symm, List.map_append] at hnd
        have hdis := (List.nodup_append.mp hnd).2.2
        refine hdis y.1 (List.mem_map.mpr ⟨y, hy, rfl⟩) xs[i].1 (List.mem_map.mpr ⟨xs[i], ?_, rfl⟩) e
        rw [List.drop_eq_getElem_cons hlt]; exact List.mem_cons_self
      rw [storedH_new hnone] at ht₆
      rw [htk, List.filter_append]
      simpa [hpz] using ht₆
  · obtain rfl : i = xs.length := by omega
    rw [← hsz] at hit'
    refine nextR_end hh hit' (N' _ hd).1 hdat fun h₂ hs₂ => ?_
    rw [List.take_length] at ht'
    exact hR h₂ tk m' oD ⟨F'.ns.at' fun o e => hs₂ _ o (Ne.symm l1) e, fun b o e => hs₂ b o (by rintro rfl; rw [z1] at e; cases e) (F'.keep b o e), F'.above⟩ (fun p hp => ⟨hs₂ _ _ (off p hp).1 (N' p hp).1, (N' p hp).2⟩) (hs₂ _ _ (Ne.symm n1) hD') (hn'.at' fun o e => hs₂ _ o (Ne.symm n2) e) ht'
end
def DcQ (P : Prop) : Prop := P
theorem dcomp_H {w : World} {A : Around} {E : Value → Shared → Prop} {s : Shared} {h₀ : Heap} {L d : Addr} {m : Str → Option Value} {news : List (Addr × Obj)} {o : Obj} {xs : Xs} {kx vx iter tst : Expr} {x : Str} {px pos : Pos} {scope : Scope} {env : Env} {cl : List (Str × Addr)} {Q : Value → Shared → Prop}
    (pz : List (Int ⊕ Str) × Addr × Value → Bool) (F₀ : Fr h₀ L s.heap m) (N₀ : News h₀ L s.heap news) (hh : A.handled = none) (hu : A.units < cLine) (big : h₀.NoLimit)
    (hclos : closureFor scope env = pure cl) (hcell : ∀ y ∈ scope.names, y.2 ≠ .cell) (hkind : scope.kind = .function)
    (hnames : ∀ y ∈ scope.names, y.2 = .local → scope.names.lookup y.1 = some .local) (hx : scope.names.lookup x = some .local)
    (h : wpAny (model PySem.Challenge.rw_pf0221_01.prog w) A (eval iter env) (fun xv s₁ => DcQ (xv = .ref d ∧ Fr h₀ L s₁.heap m ∧ News h₀ L s₁.heap news ∧ (d, o) ∈ news ∧ TupD w news o xs ∧ (d == sysModules) = false ∧ xs.length ≤ 1000 ∧
      (∀ y ∈ xs, ∀ C oC m₂ h tk E', LCg.NsObj oC m₂ → m₂ x = some (.ref y.2.1) → Fr h₀ L h m → News h₀ L h ((C, oC) :: news) →
        wpAny (model PySem.Challenge.rw_pf0221_01.prog w) A (isTrue tst (compEnvC scope cl C env) (eval tst (compEnvC scope cl C env))) (fun b s' => b = pz y ∧ ∃ tk', s' = { s₁ with heap := h, toks := tk' }) E' { s₁ with heap := h, toks := tk } ∧
        wpAny (model PySem.Challenge.rw_pf0221_01.prog w) A (eval kx (compEnvC scope cl C env)) (fun v s' => v = .ref y.2.1 ∧ ∃ tk', s' = { s₁ with heap := h, toks := tk' }) E' { s₁ with heap := h, toks := tk } ∧
        wpAny (model PySem.Challenge.rw_pf0221_01.prog w) A (eval vx (compEnvC scope cl C env)) (fun v s' => v = y.2.2 ∧ ∃ tk', s' = { s₁ with heap := h, toks := tk' }) E' { s₁ with heap := h, toks := tk }) ∧
      (∀ D o' h tk, Fr h₀ L h m → News h₀ L h ((D, o') :: news) → (∀ p ∈ news, p.1 < D) → (D == sysModules) = false → TupD w news o' (xs.filter pz) → Q (.ref D) { s₁ with heap := h, toks := tk }))) E s)
    (hs : ∀ x, foldedSetIterable iter env x = pure x) :
    wpAny (model PySem.Challenge.rw_pf0221_01.prog w) A (eval (.DictComp kx vx [⟨.Name x px, iter, [tst], 0⟩] scope pos) env) Q E s := by
  rw [arm_eval_DictComp]
  refine wpAny_comprehension_free (use := none) rfl hs hclos hkind hnames (wpAny_mono h (fun xv s₁ h₁ => ?_) fun _ _ e => e)
  unfold DcQ at h₁
  obtain ⟨rfl, F, N, hd, ht, lo, hz, leaf, hQ⟩ := h₁
  obtain ⟨es, ep, a1, a2, a3, a4, a5⟩ := id ht
  refine iterR lo (N _ hd).1 a1.1 a2 ?_
  refine wpAny_newObj_type (wpAny_newFunctionEnv hcell (by intro y hy; simp at hy) (fun h₁ hns₁ hsb₁ => ?_) hkind)
  dsimp only at hns₁ hsb₁ ⊢
  generalize hH1 : s₁.heap.push { cls := .type "dict_keyiterator", data := .fields #[.ref d, .int 0 0, .int es.size 0, .int ep 0] } = H1 at hns₁ hsb₁ ⊢
  generalize hH2 : H1.push { cls := .type "dict", dict := none, data := .dict #[] } = H2 at hns₁ hsb₁ ⊢
  have e1 : H1.objs.size = s₁.heap.objs.size + 1 := by rw [← hH1, Heap.size_push]
  have e2 : H2.objs.size = s₁.heap.objs.size + 2 := by rw [← hH2, Heap.size_push, e1]
  have n1 : s₁.heap.objs.size ≠ H1.objs.size := by rw [e1]; exact Nat.ne_of_lt (Nat.lt_succ_self _)
  have n2 : s₁.heap.objs.size ≠ H2.objs.size := by rw [e2]; exact Nat.ne_of_lt (Nat.lt_succ_of_lt (Nat.lt_succ_self _))
  have n3 : H1.objs.size ≠ H2.objs.size := by rw [e1, e2]; exact Nat.ne_of_lt (Nat.lt_succ_self _)
  have up1 : ∀ b o, s₁.heap.get? b = some o → H1.get? b = some o := fun b o e => hH1 ▸ Heap.get?_push_of_some _ e
  have up2 : ∀ b o, H1.get? b = some o → H2.get? b = some o := fun b o e => hH2 ▸ Heap.get?_push_of_some _ e
  have lt2 : ∀ b o, H2.get? b = some o → b ≠ H2.objs.size := fun b o e => Nat.ne_of_lt (Heap.lt_size e)
  have up3 : ∀ b o, H2.get? b = some o → h₁.get? b = some o := fun b o e => hsb₁.extBut b o (lt2 b o e) (Heap.get?_push_of_some _ e)
  have up : ∀ b o, s₁.heap.get? b = some o → h₁.get? b = some o := fun b o e => up3 b o (up2 b o (up1 b o e))
  have zz : ∀ a, s₁.heap.objs.size ≤ a → h₀.get? a = none := fun a ha => by
    cases e : h₀.get? a with
    | none => rfl
    | some o' => exact absurd (Heap.lt_size (F.keep a o' e)) (Nat.not_lt.mpr ha)
  have hL : L < s₁.heap.objs.size := F.ns.lt
  have hnew : ∀ p ∈ news, @LT.lt Nat _ p.1 s₁.heap.objs.size := fun p hp => Heap.lt_size (N p hp).1
  have q1 : s₁.heap.objs.size ≠ L := Nat.ne_of_gt hL
  have q2 : H1.objs.size ≠ L := by rw [e1]; exact Nat.ne_of_gt (Nat.lt_succ_of_lt hL)
  have q3 : H2.objs.size ≠ L := by rw [e2]; exact Nat.ne_of_gt (Nat.lt_succ_of_lt (Nat.lt_succ_of_lt hL))
  have hit : h₁.IsKeyIter s₁.heap.objs.size d 0 es.size ep := ⟨_, up3 _ _ (up2 _ _ (hH1 ▸ Heap.get?_push_size _ rfl)), rfl, rfl⟩
  have hD : h₁.get? H1.objs.size = some { cls := .type "dict", dict := none, data := .dict #[] } := up3 _ _ (hH2 ▸ Heap.get?_push_size _ rfl)
  have loop : ∀ s₃ : Shared, s₃ = { s₁ with heap := h₁, toks := s₁.toks + ([] : List (Str × Value)).length } →
      codeAny (model PySem.Challenge.rw_pf0221_01.prog w) A (.compLoop (.DictComp kx vx [⟨.Name x px, iter, [tst], 0⟩] scope pos) 0 (.ref s₁.heap.objs.size) (.ref H1.objs.size) (compEnvC scope cl H2.objs.size env))
        (compPost (model PySem.Challenge.rw_pf0221_01.prog w) A E none Q (.ref H1.objs.size) H2.objs.size) s₃ := by
    rintro s₃ rfl
    refine dloop_H (C := H2.objs.size) (o := o) (es := es) (ep := ep) pz hh hu (lookup_relabel_local hx) (by simp [compEnvC, relabel, hkind]) rfl n1 n2 n3 q1 q2 q3 (zz _ (Nat.le_refl _)) (zz _ (by omega)) (zz _ (by omega))
      (fun p hp => by have := hnew p hp; exact ⟨Nat.ne_of_lt this, Nat.ne_of_lt (by rw [e1]; exact Nat.lt_succ_of_lt this), Nat.ne_of_lt (by rw [e2]; exact Nat.lt_succ_of_lt (Nat.lt_succ_of_lt this))⟩)
      (F.keeps up) (N.grown up) hd a2 a3 a4 a5 hz hit hD ⟨#[], 0, ⟨rfl, rfl, rfl⟩, rfl, rfl, (fun x hx => absurd hx List.not_mem_nil), List.nodup_nil⟩ hns₁
      (fun y hy oC m₂ h tk E' q1 q2 q3 q4 => leaf y hy _ oC m₂ h tk E' q1 q2 q3 q4) ?_
    intro h' tk m' oD F' N' hD' hn' ht'
    refine ⟨m', hn', fun h'' hs'' => ?_⟩
    refine hQ H1.objs.size oD h'' tk (F'.change hs'' q3 (zz _ (by omega))) (fun p hp => ?_) (fun p hp => by have := hnew p hp; rw [e1]; exact Nat.lt_succ_of_lt this) ?_ ht'
    · rcases List.mem_cons.mp hp with rfl | hp
      · exact ⟨hs''.extBut _ _ n3 hD', q2, zz _ (by show s₁.heap.objs.size ≤ H1.objs.size; omega)⟩
      · exact ⟨hs''.extBut _ _ (Nat.ne_of_lt (by have := hnew p hp; rw [e2]; exact Nat.lt_succ_of_lt (Nat.lt_succ_of_lt this))) (N' p hp).1, (N' p hp).2⟩
    · exact (F.keeps up1).notModules (modules_low big)
  exact codeAny_compStart_dict (loop _ rfl) (wpAny_pyIter_keyiter hit (loop _ rfl))
theorem u_enterC : True := by (k_with "enter" => (refine wpAny_call ?_; k_dflt (refine' code_defC ?k1 ?k2 ?k3 ?k4 ?k5 ?kA ?kF ?kK ?k6 ?k7 ?k8 ?k9 ?kB ?kD ?_ ?c2 ?c3 ?c4; (case kA => exact rfl); (case kF => exact rfl); (case kK => first | assumption | exact rfl); (case k1 => k_asm); (case k2 => k_asm); (case k3 => k_asm); (case k4 => k_asm); (case k5 => k_asm); (case k6 => k_is); (case k7 => k_is); (case k8 => ktr_room); (case k9 => first | exact BindsTo.of_eq rfl | exact binds_K (by k_in) rfl (by k_is) rfl rfl rfl); (case kB => exact rfl); (case kD => decide +kernel); (case c2 => exact rfl); (case c3 => exact rfl); (case c4 => exact rfl); k_whole; intro g' L' h' tk' cells' FG' F' N' Y' B' X' T' l1; (try k_lt l1); k_cells Y'; (try simp only [List.cons_append, List.nil_append] at N'); (try dsimp only); (try k_fold)))); trivial
local macro_rules | `(tactic| walk_at "eval DictComp") => `(tactic| (k_here; k_extra "dcomp"))
theorem u_dcomp : True := by (k_with "dcomp" => (k_dflt (refine dcomp_H (d := dk) (o := ok) (xs := xs) (pz (i / 16)) (by k_asm) (by k_asm) (by exact rfl) (by ktr_units) (Top.nolimit (by k_asm)) (by with_unfolding_all rfl) (by decide) (by rfl) (by decide) (by rfl) ?_ (by intro _; rfl)))); trivial
theorem TupD.back {w : World} {tl news : List (Addr × Obj)} {o o' : Obj} {xs ys : Xs} (h : TupD w news o' ys) (ht : TupD w tl o xs) (hs : ∀ y ∈ ys, y ∈ xs) : TupD w tl o' ys := by
  obtain ⟨es, ep, a1, a2, a3, a4, a5⟩ := h
  obtain ⟨_, _, _, _, _, c, _⟩ := ht
  exact ⟨es, ep, a1, a2, a3, fun x hx => c x (hs x hx), a5⟩
theorem KeyO.q {w : World} {pg : Int} {kd : Str} {ko : Obj} (h : KeyO w (qkey pg kd) ko) : ∃ t1 t2 t3 t4 t5 t6 n, ko = tupO #[.int pg t1, .str kd t2, .int 0 t3, .int 0 t4, .int 0 t5, .int 960 t6] n := by
  obtain ⟨its, n, rfl, hi⟩ := h
  obtain ⟨l⟩ := its
  cases hi with
  | cons h1 hi => cases hi with
    | cons h2 hi => cases hi with
      | cons h3 hi => cases hi with
        | cons h4 hi => cases hi with
          | cons h5 hi => cases hi with
            | cons h6 hi => cases hi; obtain ⟨t1, rfl⟩ := Value.isInt_shape h1; obtain ⟨t2, rfl⟩ := Value.isStrOf_shape h2; obtain ⟨t3, rfl⟩ := Value.isInt_shape h3; obtain ⟨t4, rfl⟩ := Value.isInt_shape h4; obtain ⟨t5, rfl⟩ := Value.isInt_shape h5; obtain ⟨t6, rfl⟩ := Value.isInt_shape h6; exact ⟨t1, t2, t3, t4, t5, t6, n, rfl⟩
theorem tupd_item {w : World} {A : Around} {E : Value → Shared → Prop} {s : Shared} {h₀ : Heap} {L d a : Addr} {news tl : List (Addr × Obj)} {o ko : Obj} {xs : Xs} {k : List (Int ⊕ Str)} {pv : Addr × Value} {value slice : PySem.Expr} {Q : Value → Shared → Prop} (hu : A.units + 1 < cLine) (N : News h₀ L s.heap news) (hp : (d, o) ∈ news) (ht : TupD w tl o xs) (hsub : ∀ p ∈ tl, p ∈ news) (hk : (a, ko) ∈ news) (hi : KeyO w k ko) (hl : atKey xs k = some pv)
    (h : ∀ tk', Q pv.2 { s with toks := tk' })
    (hs : subscripted slice false (.ref d) (.ref a) = operate [.ref d, .ref a] (getItem (.ref d) (.ref a)) := by with_unfolding_all rfl) (hg : ∀ r, letTemporaryGo value (.ref d) r = pure () := by intro _; with_unfolding_all rfl) :
    wpAny (model PySem.Challenge.rw_pf0221_01.prog w) A (subscriptTail value slice (.ref d) (.ref a)) Q E s :=
  have hD := (ht.mono hsub).dictOf N hp
  subscriptTail_builtin hD.typeIs slot_dict_getitem.lookup (wpAny_getItem_heap (knd := MK w) hu (tup_is N hk hi) hD hl (h _)) hs hg
theorem atKey_of_mem {xs : Xs} {y : List (Int ⊕ Str) × Addr × Value} (hn : (xs.map (·.1)).Nodup) (hy : y ∈ xs) : atKey xs y.1 = some y.2 := by
  obtain ⟨i, hi⟩ := List.mem_iff_getElem?.mp hy
  exact atKey_of_get hn hi
def pz (num : Int) (y : List (Int ⊕ Str) × Addr × Value) : Bool := match y.1 with | .inl a :: _ => a != num | _ => true
section
variable {w : World} {p : Program} {loose : List Str} {mean : ExcName → Option Value} {mg mb : Str → Option Value} {dp un : Nat} {gd : Option (List Code)} {cn : Str} {cs : Scope} {a : Addr} {ccd : Value} {cl : List (Str × Addr)} {outer : List Env} {A₀ : Around} {base h₀ : Heap} {L : Addr} {m : Str → Option Value} {s : Shared} {Q E : Value → Shared → Prop} {news T T1 : List (Addr × Obj)} {g : Obj → List (Addr × Obj)} {wk lay dlay qi dqk dk : Addr} {ok : Obj} {fr : Int → Int} {v : IV} {n : Nat} {xs : Xs}
  (B : Below A₀ base outer h₀) (F : Fr h₀ L s.heap m) (X : (K w.params).In h₀) (T0 : Top p loose mean mg mb h₀) (hk : cs.kind = .function)
include B F X T0 hk
theorem c_forget (N : News h₀ L s.heap ((dqk, dictOf (quickE v wk lay dk) n) :: (dk, ok) :: T)) (hd : dp + 2 < recursionLimit) (hu : un + 16 < cLine)
    (hl : LayIn T lay dlay) (hq : (qi, instObj 302 dqk) ∈ T) (lo2 : (dk == sysModules) = false)
    (sp2 : ∀ p ∈ T, p.1 ≠ dqk) (sp3 : ∀ p ∈ T, p.1 ≠ dk) (n3 : @Ne Nat dqk dk)
    (hT1 : ∀ p ∈ T1, p ∈ T) (ht : TupD w T1 ok xs) (hn : Kn fr xs) (hz : xs.length ≤ 5) {i : Int} {t : Tok} (i0 : 0 ≤ i) (i1 : i < 128)
    (ret : ∀ dk' ok' h' tk', TupD w T1 ok' (xs.filter (pz (i / 16))) → (dk' == sysModules) = false → Fr h₀ L h' m → News h₀ L h' ((dqk, dictOf (quickE v wk lay dk') n) :: (dk', ok') :: T) →
      (∀ p ∈ (dqk, dictOf (quickE v wk lay dk) n) :: (dk, ok) :: T, p.1 < dk') → Q .none { s with heap := h', toks := tk' }) :
    wpAny (model PySem.Challenge.rw_pf0221_01.prog w) (ktrTop dp un gd cn cs L a ccd cl outer) (call (.ref 299) [.ref qi, .int i t]) Q E s := by
  obtain ⟨v3, hl1, hl2⟩ := hl
  k_extra "enter"
  k_steps
  refine (show _ ∧ _ from ⟨rfl, by k_asm, by k_asm, by k_mem, ht.mono (by k_extra "sub1"), lo2, by omega, ?_, ?_⟩)
  · intro y hy C9 oC9 m9 h9 tk9 E9 q1 q2 q3 q4
    obtain ⟨pg, kd, t9, y1, y2⟩ := hn y hy
    obtain ⟨es, ep, a1, a2, a3, a4, a5⟩ := id ht
    obtain ⟨ko, y3, y4⟩ := a4 y hy
    have y3 := hT1 _ y3
    rw [y1] at y4
    obtain ⟨t1, t2, t3, t4, t5, t6, n9, rfl⟩ := y4.q
    have hpz : pz (i / 16) y = (pg != i / 16) := by unfold pz; rw [y1]; rfl
    rw [hpz, y2]
    have hat : atKey xs (qkey pg kd) = some y.2 := y1 ▸ atKey_of_mem a5 hy
    refine ⟨?_, ?_, ?_⟩
    · k_steps
    · k_steps
    · k_steps
      refine tupd_item (by ktr_units) (by k_asm) (by k_mem) ht (by k_extra "sub1") (by k_mem) y4 hat ?_
      intro tk8
      exact ⟨y2, _, rfl⟩
  · intro D9 o9 h9 tk9 F9 N9 l9 lo9 ht9
    have ht8 := ht9.back ht fun y hy => (List.mem_filter.mp hy).1
    k_lt l9
    k_steps
    refine ret _ _ _ _ ht8 lo9 (by k_asm) (news_perm (by assumption) (List.forall_mem_cons.mpr ⟨by k_mem, List.forall_mem_cons.mpr ⟨by k_mem, by k_extra "sub1"⟩⟩)) (of_allLt (And.right (And.right (by assumption))))
end
/-- the addresses of what law builds once -/
structure Wa where
  wk : Addr
  dwk : Addr
  bus : Addr
  dbus : Addr
  ls : Addr
  lay : Addr
  dlay : Addr
  mem : Addr
  dmem : Addr
  dw : Addr
  qi : Addr
  dqk : Addr
  tab : Addr
  dtab : Addr
  pgs : Addr
  fl : Addr
  dW : Addr
  wo : Addr
  v : IV
  n : Nat
  nf : Nat
  tr : Tok
  oWo : Obj
def WoO (w : World) (mem tab wk qi fl dW : Addr) (t : Tok) (o : Obj) : Prop := o.IsDictOf (PySem.strKind PySem.Challenge.rw_pf0221_01.prog w) [("memory", .ref mem), ("table", .ref tab), ("root", .int 960 t), ("plain", .ref wk), ("quick", .ref qi), ("frames", .ref fl), ("words", .ref dW)]
abbrev LD (c : Wa) (ow : Obj) (dk : Addr) (ok : Obj) (vs : List Value) (oW : Obj) (T : List (Addr × Obj)) : List (Addr × Obj) :=
  (c.dw, ow) :: (c.dqk, dictOf (quickE c.v c.wk c.lay dk) c.n) :: (dk, ok) :: (c.fl, listOf vs.toArray c.nf) :: (c.dW, oW) :: T
def FrsL (vs : List Value) (fr : Int → Int) : Prop := ∃ ns : List Int, IntsAre vs ns ∧ ns.length = 8 ∧ ∀ p : Int, 0 ≤ p → p < 8 → ns.getD p.toNat 0 = fr p
theorem FrsL.set {vs : List Value} {fr : Int → Int} {k x : Int} {u : Tok} (h : FrsL vs fr) (h0 : 0 ≤ k) (h8 : k < 8) : FrsL (vs.set k.toNat (.int x u)) (put fr k x) := by
  obtain ⟨ns, a, b, c⟩ := h
  refine ⟨ns.set k.toNat x, ints_set a _, by rw [List.length_set]; exact b, fun p p0 p8 => ?_⟩
  have e := c p p0 p8
  unfold put
  rw [List.getD_eq_getElem?_getD] at e ⊢
  rw [List.getElem?_set]
  by_cases q : p = k
  · subst q
    rw [if_pos rfl, if_pos rfl, if_pos (by omega)]
    rfl
  · rw [if_neg q, if_neg (by omega)]
    exact e
def wkey (f s : Int) : List (Int ⊕ Str) := [.inl f, .inl s]
def put2 (wd : Int → Int → Int) (f s x : Int) : Int → Int → Int := fun a b => if a = f ∧ b = s then x else wd a b
def WRel (ws : Xs) (wd : Int → Int → Int) : Prop := (∀ x ∈ ws, ∃ f s t, x.1 = wkey f s ∧ 0 ≤ f ∧ f < 8 ∧ 0 ≤ s ∧ s < 4 ∧ x.2.2 = .int (wd f s) t) ∧ ∀ f s, atKey ws (wkey f s) = none → wd f s = 0
theorem wkey_inj {f s f' s' : Int} (h : wkey f s = wkey f' s') : f = f' ∧ s = s' := by
  unfold wkey at h
  injection h with h1 h2
  injection h2 with h2 h3
  injection h1 with h1
  injection h2 with h2
  exact ⟨h1, h2⟩
def wcode (k : List (Int ⊕ Str)) : Int := match k with | [.inl f, .inl s] => 4 * f + s | _ => 0
theorem WRel.len {ws : Xs} {wd : Int → Int → Int} (h : WRel ws wd) (nd : (ws.map (·.1)).Nodup) : ws.length ≤ 32 := by
  have h9 := len_range 32 (ws.map fun x => wcode x.1) (by
    unfold List.Nodup at nd ⊢
    rw [List.pairwise_map] at nd ⊢
    refine nd.imp_of_mem ?_
    intro a b ha hb hab e
    obtain ⟨f, s, _, e1, a1, a2, a3, a4, _⟩ := h.1 a ha
    obtain ⟨f', s', _, e2, b1, b2, b3, b4, _⟩ := h.1 b hb
    rw [e1, e2] at e
    refine hab ?_
    rw [e1, e2]
    have e9 : 4 * f + s = 4 * f' + s' := e
    rw [show f = f' by omega, show s = s' by omega]) fun x hx => by
      obtain ⟨y, hy, rfl⟩ := List.mem_map.mp hx
      obtain ⟨f, s, _, e1, a1, a2, a3, a4, _⟩ := h.1 y hy
      rw [e1]
      show 0 ≤ 4 * f + s ∧ 4 * f + s < 32
      omega
  rw [List.length_map] at h9
  exact h9
theorem WRel.get {ws : Xs} {wd : Int → Int → Int} (h : WRel ws wd) (f s : Int) (u : Tok) : ∃ t, ((atKey ws (wkey f s)).map (·.2)).getD (.int 0 u) = .int (wd f s) t := by
  cases e : atKey ws (wkey f s) with
  | none => rw [h.2 f s e]; exact ⟨u, rfl⟩
  | some p =>
    obtain ⟨f', s', t, e1, _, _, _, _, e2⟩ := h.1 _ (atKey_mem e)
    obtain ⟨rfl, rfl⟩ := wkey_inj e1
    exact ⟨t, e2⟩
theorem mem_putAt {xs : Xs} {k : List (Int ⊕ Str)} {v : Value} {x : List (Int ⊕ Str) × Addr × Value} (h : x ∈ xs.map (putAt k v)) : ∃ y ∈ xs, x.1 = y.1 ∧ x.2.2 = if y.1 = k then v else y.2.2 := by
  obtain ⟨y, hy, rfl⟩ := List.mem_map.mp h
  refine ⟨y, hy, ?_⟩
  unfold putAt
  by_cases e : y.1 = k
  · simp [e]
  · simp [e]
theorem atKey_map_none {xs : Xs} {k q : List (Int ⊕ Str)} {v : Value} (h : atKey (xs.map (putAt k v)) q = none) : atKey xs q = none := by
  cases e : atKey xs q with
  | none => rfl
  | some p =>
    exfalso
    have hm := atKey_mem e
    have : (xs.map (putAt k v)).any (fun y => y.1 = q) = true := by
      rw [List.any_eq_true]
      refine ⟨putAt k v (q, p), List.mem_map.mpr ⟨_, hm, rfl⟩, ?_⟩
      unfold putAt
      split <;> simp
    unfold atKey at h
    rw [Option.map_eq_none_iff, List.find?_eq_none] at h
    rw [List.any_eq_true] at this
    obtain ⟨y, hy, e9⟩ := this
    exact h y hy (by simpa using e9)
theorem WRel.set {ws : Xs} {wd : Int → Int → Int} (h : WRel ws wd) {f s x : Int} {t : Tok} (a : Addr) (f0 : 0 ≤ f) (f8 : f < 8) (s0 : 0 ≤ s) (s4 : s < 4) : WRel (storedH ws (wkey f s) a (.int x t)) (put2 wd f s x) := by
  cases e : atKey ws (wkey f s) with
  | none =>
    rw [storedH_new e]
    refine ⟨fun y hy => ?_, fun f' s' hn => ?_⟩
    · rcases List.mem_append.mp hy with hy2 | hy2
      · obtain ⟨f', s', t', e1, b0, b1, b2, b3, e2⟩ := h.1 y hy2
        refine ⟨f', s', t', e1, b0, b1, b2, b3, ?_⟩
        unfold put2
        rw [if_neg]
        · exact e2
        · rintro ⟨rfl, rfl⟩
          refine absurd e ?_
          have : atKey ws y.1 ≠ none := by
            intro q
            unfold atKey at q
            rw [Option.map_eq_none_iff, List.find?_eq_none] at q
            exact q y hy2 (by simp)
          rw [e1] at this
          exact this
      · rw [List.mem_singleton] at hy2
        subst hy2
        exact ⟨f, s, t, rfl, f0, f8, s0, s4, by unfold put2; rw [if_pos ⟨rfl, rfl⟩]⟩
    · have hn' : atKey ws (wkey f' s') = none ∧ ¬ (f' = f ∧ s' = s) := by
        unfold atKey at hn ⊢
        rw [Option.map_eq_none_iff, List.find?_eq_none] at hn
        refine ⟨?_, ?_⟩
        · rw [Option.map_eq_none_iff, List.find?_eq_none]
          exact fun y hy => hn y (List.mem_append_left _ hy)
        · rintro ⟨rfl, rfl⟩
          exact hn _ (List.mem_append_right _ (List.mem_singleton_self _)) (by simp)
      unfold put2
      rw [if_neg hn'.2]
      exact h.2 _ _ hn'.1
  | some p =>
    rw [storedH_old e]
    refine ⟨fun y hy => ?_, fun f' s' hn => ?_⟩
    · obtain ⟨z, hz, e1, e2⟩ := mem_putAt hy
      obtain ⟨f', s', t', e3, b0, b1, b2, b3, e4⟩ := h.1 z hz
      by_cases q : z.1 = wkey f s
      · rw [if_pos q] at e2
        rw [q] at e3
        obtain ⟨rfl, rfl⟩ := wkey_inj e3
        exact ⟨f, s, t, by rw [e1, q], b0, b1, b2, b3, by unfold put2; rw [if_pos ⟨rfl, rfl⟩]; exact e2⟩
      · rw [if_neg q] at e2
        refine ⟨f', s', t', by rw [e1, e3], b0, b1, b2, b3, ?_⟩
        unfold put2
        rw [if_neg]
        · rw [e2, e4]
        · rintro ⟨rfl, rfl⟩
          exact q e3
    · have hn' := atKey_map_none hn
      unfold put2
      rw [if_neg]
      · exact h.2 _ _ hn'
      · rintro ⟨rfl, rfl⟩
        rw [e] at hn'
        cases hn'
/-- the numbers of the memory: k pages mapped, q the word at 200 -/
structure Num (k q : Int) (M fr : Int → Int) (wd : Int → Int → Int) : Prop where
  f0 : ∀ p, 0 ≤ p → p < 8 → 0 ≤ fr p
  f8 : ∀ p, 0 ≤ p → p < 8 → fr p < 8
  wd : ∀ f s, 0 ≤ f → f < 8 → 0 ≤ s → s < 4 → M (4 * f + s) = wd f s
  r0 : 0 < k → M 240 = 62465
  r1 : 4 < k → M 241 = 63489
  en : ∀ p, 0 ≤ p → p < k → IsE (M (244 + p)) (fr p)
  q : M 50 = q
  z : ∀ p, 0 ≤ p → k ≤ p → p < 8 → M (244 + p) = 0
  y0 : k ≤ 0 → M 240 = 0
  y1 : k ≤ 4 → M 241 = 0
theorem Num.place {k q : Int} {M M' fr : Int → Int} {wd : Int → Int → Int} {pg : Int} (h : Num k q M fr wd) (i0 : 0 ≤ pg) (i1 : pg < k) (mx : ∀ x, x ≠ 244 + pg → M' x = M x) (me : IsE (M' (244 + pg)) (fr pg)) : Num k q M' fr wd := by
  refine ⟨h.f0, h.f8, fun f s a b c d => ?_, fun a => ?_, fun a => ?_, fun p a b => ?_, ?_, fun p a b c => ?_, fun a => ?_, fun a => ?_⟩
  · rw [mx _ (by omega)]; exact h.wd f s a b c d
  · rw [mx _ (by omega)]; exact h.r0 a
  · rw [mx _ (by omega)]; exact h.r1 a
  · by_cases e : p = pg
    · subst e; exact me
    · rw [mx _ (by omega)]; exact h.en p a b
  · rw [mx _ (by omega)]; exact h.q
  · rw [mx _ (by omega)]; exact h.z p a b c
  · rw [mx _ (by omega)]; exact h.y0 a
  · rw [mx _ (by omega)]; exact h.y1 a
theorem Num.move {k q : Int} {M M' fr : Int → Int} {wd : Int → Int → Int} {pg x : Int} (h : Num k q M fr wd) (i0 : 0 ≤ pg) (i1 : pg < k) (x0 : 0 ≤ x) (x8 : x < 8) (mx : ∀ x, x ≠ 244 + pg → M' x = M x) (me : IsE (M' (244 + pg)) x) : Num k q M' (put fr pg x) wd := by
  refine ⟨fun p a b => ?_, fun p a b => ?_, fun f s a b c d => ?_, fun a => ?_, fun a => ?_, fun p a b => ?_, ?_, fun p a b c => ?_, fun a => ?_, fun a => ?_⟩
  · unfold put; split
    · exact x0
    · exact h.f0 p a b
  · unfold put; split
    · exact x8
    · exact h.f8 p a b
  · rw [mx _ (by omega)]; exact h.wd f s a b c d
  · rw [mx _ (by omega)]; exact h.r0 a
  · rw [mx _ (by omega)]; exact h.r1 a
  · unfold put
    by_cases e : p = pg
    · subst e; rw [if_pos rfl]; exact me
    · rw [mx _ (by omega), if_neg e]; exact h.en p a b
  · rw [mx _ (by omega)]; exact h.q
  · rw [mx _ (by omega)]; exact h.z p a b c
  · rw [mx _ (by omega)]; exact h.y0 a
  · rw [mx _ (by omega)]; exact h.y1 a
theorem Num.store {k q : Int} {M fr : Int → Int} {wd : Int → Int → Int} {f s x : Int} (h : Num k q M fr wd) (f0 : 0 ≤ f) (f8 : f < 8) (s0 : 0 ≤ s) (s4 : s < 4) : Num k q (put M (4 * f + s) x) fr (put2 wd f s x) := by
  have mx : ∀ y, y ≠ 4 * f + s → put M (4 * f + s) x y = M y := fun y hy => if_neg hy
  refine ⟨h.f0, h.f8, fun f' s' a b c d => ?_, fun a => ?_, fun a => ?_, fun p a b => ?_, ?_, fun p a b c => ?_, fun a => ?_, fun a => ?_⟩
  · unfold put put2
    by_cases e : f' = f ∧ s' = s
    · obtain ⟨rfl, rfl⟩ := e
      rw [if_pos rfl, if_pos ⟨rfl, rfl⟩]
    · rw [if_neg (by omega), if_neg e]; exact h.wd f' s' a b c d
  · rw [mx _ (by omega)]; exact h.r0 a
  · rw [mx _ (by omega)]; exact h.r1 a
  · rw [mx _ (by omega)]; exact h.en p a b
  · rw [mx _ (by omega)]; exact h.q
  · rw [mx _ (by omega)]; exact h.z p a b c
  · rw [mx _ (by omega)]; exact h.y0 a
  · rw [mx _ (by omega)]; exact h.y1 a
theorem Num.lk1 {k q : Int} {M fr : Int → Int} {wd : Int → Int → Int} {pg : Int} (h : Num k q M fr wd) (i0 : 0 ≤ pg) (i1 : pg < k) (k8 : k ≤ 8) : M (240 + pg / 4) = 1024 * (61 + pg / 4) + 1 := by
  have : pg / 4 = 0 ∨ pg / 4 = 1 := by omega
  rcases this with e | e
  · rw [e]; exact h.r0 (by omega)
  · rw [e]; exact h.r1 (by omega)
theorem Kn.forget {fr : Int → Int} {xs : Xs} {pg x : Int} (h : Kn fr xs) : Kn (put fr pg x) (xs.filter (pz pg)) := by
  intro y hy
  obtain ⟨h1, h2⟩ := List.mem_filter.mp hy
  obtain ⟨p, kd, t, e1, e2⟩ := h y h1
  refine ⟨p, kd, t, e1, ?_⟩
  unfold pz at h2
  rw [e1] at h2
  have h3 : (p != pg) = true := h2
  unfold put
  rw [if_neg (by simpa using h3)]
  exact e2
structure Good (w : World) (c : Wa) (T : List (Addr × Obj)) : Prop where
  W : WalIn T c.wk c.dwk c.bus c.dbus c.ls c.lay c.dlay c.mem c.dmem c.dw
  Tb : TabIn T c.tab c.dtab c.pgs c.lay c.dlay c.mem c.dmem c.dw
  Q : (c.qi, instObj 302 c.dqk) ∈ T
  Wo : (c.wo, c.oWo) ∈ T
  wo : WoO w c.mem c.tab c.wk c.qi c.fl c.dW c.tr c.oWo
  lo : (c.dw == sysModules) = false
  lW : (c.dW == sysModules) = false
  s1 : ∀ p ∈ T, p.1 ≠ c.dw
  s2 : ∀ p ∈ T, p.1 ≠ c.dqk
  s3 : ∀ p ∈ T, p.1 ≠ c.fl
  s4 : ∀ p ∈ T, p.1 ≠ c.dW
  n1 : @Ne Nat c.dw c.dqk
  n2 : @Ne Nat c.dw c.fl
  n3 : @Ne Nat c.dw c.dW
  n4 : @Ne Nat c.dqk c.fl
  n5 : @Ne Nat c.dqk c.dW
  n6 : @Ne Nat c.fl c.dW
structure Inv (w : World) (c : Wa) (K T : List (Addr × Obj)) (k q : Int) (fr : Int → Int) (wd : Int → Int → Int) (dk : Addr) (ok ow : Obj) (vs : List Value) (oW : Obj) (M : Int → Int) (xs ws : Xs) : Prop where
  i : IntD w ow M
  t : TupD w K ok xs
  n : Kn fr xs
  z : xs.length ≤ 5
  lo2 : (dk == sysModules) = false
  s : ∀ p ∈ T, p.1 ≠ dk
  n1 : @Ne Nat c.dw dk
  n2 : @Ne Nat c.dqk dk
  n3 : @Ne Nat dk c.fl
  n4 : @Ne Nat dk c.dW
  f : FrsL vs fr
  tw : TupD w K oW ws
  r : WRel ws wd
  u : Num k q M fr wd
  b : ∀ p ∈ K, p ∈ T
theorem updF_upd {d : Addr} {o : Obj} {l : List (Addr × Obj)} {g : Obj → List (Addr × Obj)} (h : UpdF d o l g) (o' : Obj) : Upd d o o' l (g o') := by
  induction h with
  | head a => exact .head a
  | tail a _ ih => exact .tail a ih
/-- new objects, younger than all before -/
def Newer (nk l : List (Addr × Obj)) : Prop := ∀ p ∈ nk, ∀ q ∈ l, @LT.lt Nat _ q.1 p.1
theorem Newer.nil {l : List (Addr × Obj)} : Newer [] l := fun _ h => nomatch h
theorem Newer.one {D : Addr} {o : Obj} {l : List (Addr × Obj)} (h : ∀ p ∈ l, p.1 < D) : Newer [(D, o)] l := fun p hp => by
  rw [List.mem_singleton] at hp
  subst hp
  exact h
theorem Newer.trans {n1 n2 l : List (Addr × Obj)} (h1 : Newer n1 l) (h2 : Newer n2 (n1 ++ l)) : Newer (n2 ++ n1) l := fun p hp q hq => by
  rcases List.mem_append.mp hp with hp | hp
  · exact h2 p hp q (List.mem_append_right _ hq)
  · exact h1 p hp q hq
theorem Newer.sub {n l l' : List (Addr × Obj)} (h : Newer n l) (s : ∀ p ∈ l', p ∈ l) : Newer n l' := fun p hp q hq => h p hp q (s q hq)
def SepX (c : Wa) (dk : Addr) (p : Addr × Obj) : Prop := @Ne Nat p.1 c.dw ∧ @Ne Nat p.1 c.dqk ∧ @Ne Nat p.1 c.fl ∧ @Ne Nat p.1 c.dW ∧ @Ne Nat p.1 dk
theorem Good.to {w : World} {c : Wa} {T T2 : List (Addr × Obj)} {dk : Addr} (h : Good w c T) (sub : ∀ p ∈ T, p ∈ T2) (new : ∀ p ∈ T2, p ∈ T ∨ SepX c dk p) : Good w c T2 := by
  refine ⟨h.W.mono fun p a _ => sub p a, h.Tb.mono fun p a _ => sub p a, sub _ h.Q, sub _ h.Wo, h.wo, h.lo, h.lW, ?_, ?_, ?_, ?_, h.n1, h.n2, h.n3, h.n4, h.n5, h.n6⟩ <;> intro p hp <;> rcases new p hp with hp | hp
  · exact h.s1 p hp
  · exact hp.1
  · exact h.s2 p hp
  · exact hp.2.1
  · exact h.s3 p hp
  · exact hp.2.2.1
  · exact h.s4 p hp
  · exact hp.2.2.2.1
theorem Inv.to {w : World} {c : Wa} {K T T2 : List (Addr × Obj)} {k q : Int} {fr : Int → Int} {wd : Int → Int → Int} {dk : Addr} {ok ow : Obj} {vs : List Value} {oW : Obj} {M : Int → Int} {xs ws : Xs} (h : Inv w c K T k q fr wd dk ok ow vs oW M xs ws) (sub : ∀ p ∈ K, p ∈ T2) (new : ∀ p ∈ T2, p ∈ T ∨ SepX c dk p) : Inv w c K T2 k q fr wd dk ok ow vs oW M xs ws := by
  refine ⟨h.i, h.t, h.n, h.z, h.lo2, ?_, h.n1, h.n2, h.n3, h.n4, h.f, h.tw, h.r, h.u, sub⟩
  intro p hp
  rcases new p hp with hp | hp
  · exact h.s p hp
  · exact hp.2.2.2.2
/-- the state of the world: k pages mapped, q the word at 200, fr the pages' frames, wd the frames' words -/
def St (w : World) (c : Wa) (K T : List (Addr × Obj)) (k q : Int) (fr : Int → Int) (wd : Int → Int → Int) (h₀ : Heap) (L : Addr) (h : Heap) : Prop :=
  ∃ ow dk ok vs oW M xs ws, Good w c T ∧ Inv w c K T k q fr wd dk ok ow vs oW M xs ws ∧ News h₀ L h (LD c ow dk ok vs oW T)
theorem St.mk {w : World} {c : Wa} {K T news : List (Addr × Obj)} {k q : Int} {fr : Int → Int} {wd : Int → Int → Int} {dk : Addr} {ok ow : Obj} {vs : List Value} {oW : Obj} {M : Int → Int} {xs ws : Xs} {h₀ : Heap} {L : Addr} {h : Heap}
    (hg : Good w c T) (hv : Inv w c K T k q fr wd dk ok ow vs oW M xs ws) (N : News h₀ L h news) (sub : ∀ p ∈ LD c ow dk ok vs oW T, p ∈ news) : St w c K T k q fr wd h₀ L h :=
  ⟨ow, dk, ok, vs, oW, M, xs, ws, hg, hv, news_perm N sub⟩
/-- the caller's own objects X go among the still ones -/
theorem St.ext {w : World} {c : Wa} {K T news X : List (Addr × Obj)} {k q : Int} {fr : Int → Int} {wd : Int → Int → Int} {dk : Addr} {ok ow : Obj} {vs : List Value} {oW : Obj} {M : Int → Int} {xs ws : Xs} {h₀ : Heap} {L : Addr} {h : Heap}
    (hg : Good w c T) (hv : Inv w c K T k q fr wd dk ok ow vs oW M xs ws) (N : News h₀ L h news) (hX : ∀ p ∈ X, SepX c dk p) (sub : ∀ p ∈ LD c ow dk ok vs oW (X ++ T), p ∈ news) : St w c K (X ++ T) k q fr wd h₀ L h :=
  have new : ∀ p ∈ X ++ T, p ∈ T ∨ SepX c dk p := fun p hp => (List.mem_append.mp hp).elim (fun h => .inr (hX p h)) .inl
  St.mk (hg.to (fun p hp => List.mem_append_right _ hp) new) (hv.to (fun p hp => List.mem_append_right _ (hv.b p hp)) new) N sub
/-- and leave them again -/
theorem St.drop {w : World} {c : Wa} {K T T2 : List (Addr × Obj)} {k q : Int} {fr : Int → Int} {wd : Int → Int → Int} {h₀ : Heap} {L : Addr} {h : Heap}
    (S : St w c K T k q fr wd h₀ L h) {T0 : List (Addr × Obj)} (hg : Good w c T0) (sub0 : ∀ p ∈ T0, p ∈ T2) (subK : ∀ p ∈ K, p ∈ T2) (sub : ∀ p ∈ T2, p ∈ T) : St w c K T2 k q fr wd h₀ L h := by
  obtain ⟨ow, dk, ok, vs, oW, M, xs, ws, g, v, N⟩ := S
  refine ⟨ow, dk, ok, vs, oW, M, xs, ws, hg.to (dk := dk) sub0 (fun p hp => .inr ⟨g.s1 p (sub p hp), g.s2 p (sub p hp), g.s3 p (sub p hp), g.s4 p (sub p hp), v.s p (sub p hp)⟩), v.to subK (fun p hp => .inl (sub p hp)), news_perm N ?_⟩
  intro p hp
  simp only [LD, List.mem_cons] at hp ⊢
  rcases hp with hp | hp | hp | hp | hp | hp
  · exact .inl hp
  · exact .inr (.inl hp)
  · exact .inr (.inr (.inl hp))
  · exact .inr (.inr (.inr (.inl hp)))
  · exact .inr (.inr (.inr (.inr (.inl hp))))
  · exact .inr (.inr (.inr (.inr (.inr (sub p hp)))))
section
variable {w : World} {A : Around} {E : Value → Shared → Prop} {s : Shared} {h₀ : Heap} {L D : Addr} {m : Str → Option Value} {news : List (Addr × Obj)} {g : Obj → List (Addr × Obj)} {vs : List Value} {n : Nat} {k x : Int} {t u : Tok} {fr : Int → Int}
theorem frs_sub {value slice : PySem.Expr} {Q : Value → Shared → Prop} (N : News h₀ L s.heap news) (hm : (D, listOf vs.toArray n) ∈ news) (hf : FrsL vs fr) (h0 : 0 ≤ k) (h1 : k < 8) (h : ∀ t, Q (.int (fr k) t) s)
    (hs : subscripted slice false (.ref D) (.int k u) = operate [.ref D, .int k u] (getItem (.ref D) (.int k u)) := by with_unfolding_all rfl) :
    wpAny (model PySem.Challenge.rw_pf0221_01.prog w) A (subscriptTail value slice (.ref D) (.int k u)) Q E s := by
  obtain ⟨ns, a, b, c⟩ := hf
  refine ksa_sub N hm a h0 (by omega) (by omega) ?_ hs
  rw [c k h0 h1]
  exact h
theorem frs_set {Q : Unit → Shared → Prop} (F : Fr h₀ L s.heap m) (N : News h₀ L s.heap news) (U : UpdF D (listOf vs.toArray n) news g) (hf : FrsL vs fr) (h0 : 0 ≤ k) (h1 : k < 8)
    (h : ∀ h' vs', Fr h₀ L h' m → News h₀ L h' (g (listOf vs'.toArray n)) → FrsL vs' (put fr k x) → Q () { s with heap := h' }) :
    wpAny (model PySem.Challenge.rw_pf0221_01.prog w) A (setItem (.ref D) (.int k t) (.int x u)) Q E s := by
  have hf' := hf.set (x := x) (u := u) h0 h1
  obtain ⟨ns, a, b, c⟩ := hf
  refine ksa_set F N (updF_upd U _) a h0 (by omega) (by omega) fun h' F' N' _ _ _ => h h' _ F' N' hf'
end
theorem u_witem : True := by (k_with "subscriptTail Name" => ((with_reducible show wpAny _ _ (subscriptTail _ _ (Value.ref _) (Value.str _ _)) _ _ _); k_dflt (refine kda_item (knd := PySem.strKind _ _) (by k_asm) (by k_mem) (by assumption) (strKind_is _ _ _ _) (by exact rfl) ?_); (try dsimp only))); trivial
theorem u_qtr : True := by (k_with "ctr" => ((with_reducible show wpAny _ _ (call (Value.ref 293) _) _ _ _); k_dflt (refine c_qtr (by k_asm) (by k_asm) (by k_asm) (by k_asm) (by k_extra "base") (by k_asm) (by ktr_room) (by ktr_units) (by assumption) (by assumption) (by assumption) (by assumption) (by assumption) (by assumption) (by assumption) (by assumption) (by assumption) (by assumption) (by assumption) (by assumption) (by assumption) (by assumption) (by assumption) (by omega) (by omega) (by k_extra "look") (by k_extra "look") (by assumption) (by assumption) (by assumption) (by assumption) ?_); intro ow' M9 dk9 ok9 xs9 D9 ko9 t9 h' tk' ht9 hn9 hz9 d' mx9 me9 lo9 F' N' l9 q9 u9; try dsimp only at N'; try dsimp only)); trivial
/-- whether a walker that keeps pages is asked for -/
def KV (b : Bool) (kv : Value) : Prop := kv = .bool b ∨ ∃ t, kv = .int (cond b 1 0) t
section
variable {w : World} {p : Program} {loose : List Str} {mean : ExcName → Option Value} {mg mb : Str → Option Value} {dp un : Nat} {gd : Option (List Code)} {cn : Str} {cs : Scope} {a : Addr} {ccd : Value} {cl : List (Str × Addr)} {outer : List Env} {A₀ : Around} {base h₀ : Heap} {L : Addr} {m : Str → Option Value} {s : Shared} {Q E : Value → Shared → Prop} {news T T1 : List (Addr × Obj)} {wk dwk bus dbus ls lay dlay mem dmem dw qi dqk dk tab fl dW wo : Addr} {ow ok oWo : Obj} {M fr : Int → Int} {v : IV} {n : Nat} {xs : Xs} {tr : Tok}
  (B : Below A₀ base outer h₀) (F : Fr h₀ L s.heap m) (X : (K w.params).In h₀) (T0 : Top p loose mean mg mb h₀) (hk : cs.kind = .function)
include B F X T0 hk
theorem c_place_p (N : News h₀ L s.heap ((dw, ow) :: T)) (hd : dp + 9 < recursionLimit) (hu : un + 72 < cLine)
    (hW : WalIn T wk dwk bus dbus ls lay dlay mem dmem dw) (hwo : (wo, oWo) ∈ T) (hw9 : WoO w mem tab wk qi fl dW tr oWo) (hi : IntD w ow M) (lo : (dw == sysModules) = false) (sp1 : ∀ p ∈ T, p.1 ≠ dw)
    {pg sl e : Int} {k : Str} {t t1 t2 : Tok} {kv : Value} (hkv : KV false kv) (i0 : 0 ≤ pg) (i1 : pg < 8) (j0 : 0 ≤ sl) (j1 : sl < 4) (h1 : M (240 + pg / 4) = 1024 * (61 + pg / 4) + 1) (h2 : M (244 + pg) = e) (he : IsE e (fr pg)) (f0 : 0 ≤ fr pg) (f8 : fr pg < 8) (hk9 : k = "load" ∨ k = "store")
    (ret : ∀ ow' M' t h' tk', IntD w ow' M' → (∀ x, x ≠ 244 + pg → M' x = M x) → IsE (M' (244 + pg)) (fr pg) → Fr h₀ L h' m → News h₀ L h' ((dw, ow') :: T) → Q (.int (16 * fr pg + 4 * sl) t) { s with heap := h', toks := tk' }) :
    wpAny (model PySem.Challenge.rw_pf0221_01.prog w) (ktrTop dp un gd cn cs L a ccd cl outer) (call (.ref 881) [.ref wo, .int pg t, .int sl t1, .str k t2, kv]) Q E s := by
  have hW9 := hW
  obtain ⟨v1, v2, m1, m2, m3, m4, hl, hm, b1, b2, b3, b4, b5, b6⟩ := hW9
  have p1 : (16 * pg + 4 * sl) / 64 = pg / 4 := by omega
  have p2 : (16 * pg + 4 * sl) / 16 = pg := by omega
  have p3 : (16 * pg + 4 * sl) % 16 = 4 * sl := by omega
  have lk1 : M (240 + (16 * pg + 4 * sl) / 64) = 1024 * (61 + (16 * pg + 4 * sl) / 64) + 1 := by rw [p1]; exact h1
  have lk2 : M (244 + (16 * pg + 4 * sl) / 16) = e := by rw [p2]; exact h2
  unfold WoO at hw9
  rcases hkv with rfl | ⟨t9, rfl⟩
  · k_extra "enter"
    k_steps
    rw [p3] 
    rw [p2] at mx9 me9
    refine ret _ _ _ _ _ (by assumption) mx9 me9 (by k_asm) (by k_asm)
  · k_extra "enter"
    k_steps
    rw [p3] 
    rw [p2] at mx9 me9
    refine ret _ _ _ _ _ (by assumption) mx9 me9 (by k_asm) (by k_asm)
theorem c_place_q (N : News h₀ L s.heap ((dw, ow) :: (dqk, dictOf (quickE v wk lay dk) n) :: (dk, ok) :: T)) (hd : dp + 9 < recursionLimit) (hu : un + 72 < cLine)
    (hW : WalIn T wk dwk bus dbus ls lay dlay mem dmem dw) (hq : (qi, instObj 302 dqk) ∈ T) (hwo : (wo, oWo) ∈ T) (hw9 : WoO w mem tab wk qi fl dW tr oWo) (hi : IntD w ow M) (lo : (dw == sysModules) = false) (lo2 : (dk == sysModules) = false)
    (sp1 : ∀ p ∈ T, p.1 ≠ dw) (sp2 : ∀ p ∈ T, p.1 ≠ dqk) (sp3 : ∀ p ∈ T, p.1 ≠ dk) (n1 : @Ne Nat dw dqk) (n2 : @Ne Nat dw dk) (n3 : @Ne Nat dqk dk)
    (hT1 : ∀ p ∈ T1, p ∈ T) (ht : TupD w T1 ok xs) (hn : Kn fr xs) (hz : xs.length ≤ 5)
    {pg sl e : Int} {k : Str} {t t1 t2 : Tok} {kv : Value} (hkv : KV true kv) (i0 : 0 ≤ pg) (i1 : pg < 8) (j0 : 0 ≤ sl) (j1 : sl < 4) (h1 : M (240 + pg / 4) = 1024 * (61 + pg / 4) + 1) (h2 : M (244 + pg) = e) (he : IsE e (fr pg)) (f0 : 0 ≤ fr pg) (f8 : fr pg < 8) (hk9 : k = "load" ∨ k = "store")
    (ret : ∀ ow' M' dk' ok' xs' D ko t h' tk', TupD w ((D, ko) :: T1) ok' xs' → Kn fr xs' → xs'.length ≤ 5 → IntD w ow' M' → (∀ x, x ≠ 244 + pg → M' x = M x) → IsE (M' (244 + pg)) (fr pg) → (dk' == sysModules) = false → Fr h₀ L h' m →
      News h₀ L h' ((dw, ow') :: (dqk, dictOf (quickE v wk lay dk') n) :: (dk', ok') :: (D, ko) :: T) → (∀ p ∈ (dw, ow) :: (dqk, dictOf (quickE v wk lay dk) n) :: (dk, ok) :: T, p.1 < D) →
      (dk' = dk ∨ ∀ p ∈ (dw, ow) :: (dqk, dictOf (quickE v wk lay dk) n) :: (dk, ok) :: T, p.1 < dk') → @Ne Nat D dk' →
      Q (.int (16 * fr pg + 4 * sl) t) { s with heap := h', toks := tk' }) :
    wpAny (model PySem.Challenge.rw_pf0221_01.prog w) (ktrTop dp un gd cn cs L a ccd cl outer) (call (.ref 881) [.ref wo, .int pg t, .int sl t1, .str k t2, kv]) Q E s := by
  have p1 : (16 * pg + 4 * sl) / 64 = pg / 4 := by omega
  have p2 : (16 * pg + 4 * sl) / 16 = pg := by omega
  have p3 : (16 * pg + 4 * sl) % 16 = 4 * sl := by omega
  have lk1 : M (240 + (16 * pg + 4 * sl) / 64) = 1024 * (61 + (16 * pg + 4 * sl) / 64) + 1 := by rw [p1]; exact h1
  have lk2 : M (244 + (16 * pg + 4 * sl) / 16) = e := by rw [p2]; exact h2
  have he' : IsE e (fr ((16 * pg + 4 * sl) / 16)) := by rw [p2]; exact he
  have f0' : 0 ≤ fr ((16 * pg + 4 * sl) / 16) := by rw [p2]; exact f0
  have f8' : fr ((16 * pg + 4 * sl) / 16) < 8 := by rw [p2]; exact f8
  unfold WoO at hw9
  rcases hkv with rfl | ⟨t9, rfl⟩
  all_goals (k_extra "enter")
  all_goals k_steps
  all_goals (rw [p3]; rw [p2] at mx9 me9 ⊢)
  all_goals (refine ret _ _ _ _ _ _ _ _ _ _ (by assumption) (by assumption) (by assumption) (by assumption) mx9 me9 (by assumption) (by k_asm) (by k_asm) (by assumption) (by assumption) (by assumption))
end
theorem Good.mem {w : World} {c : Wa} {T : List (Addr × Obj)} (h : Good w c T) : MemIn T c.mem c.dmem c.dw := let ⟨_, _, _, _, a, _⟩ := h.Tb; a
theorem Good.ss {w : World} {c : Wa} {T : List (Addr × Obj)} (h : Good w c T) : (∀ p ∈ T, p.1 ≠ c.dw) ∧ (∀ p ∈ T, p.1 ≠ c.dqk) ∧ (∀ p ∈ T, p.1 ≠ c.fl) ∧ ∀ p ∈ T, p.1 ≠ c.dW := ⟨h.s1, h.s2, h.s3, h.s4⟩
theorem Good.nn {w : World} {c : Wa} {T : List (Addr × Obj)} (h : Good w c T) : @Ne Nat c.dw c.dqk ∧ @Ne Nat c.dw c.fl ∧ @Ne Nat c.dw c.dW ∧ @Ne Nat c.dqk c.fl ∧ @Ne Nat c.dqk c.dW ∧ @Ne Nat c.fl c.dW := ⟨h.n1, h.n2, h.n3, h.n4, h.n5, h.n6⟩
theorem Inv.nn {w : World} {c : Wa} {K T : List (Addr × Obj)} {k q : Int} {fr : Int → Int} {wd : Int → Int → Int} {dk : Addr} {ok ow : Obj} {vs : List Value} {oW : Obj} {M : Int → Int} {xs ws : Xs} (h : Inv w c K T k q fr wd dk ok ow vs oW M xs ws) : @Ne Nat c.dw dk ∧ @Ne Nat c.dqk dk ∧ @Ne Nat dk c.fl ∧ @Ne Nat dk c.dW ∧ ∀ p ∈ T, p.1 ≠ dk := ⟨h.n1, h.n2, h.n3, h.n4, h.s⟩
theorem u_fsub : True := by (k_with "subscriptTail Subscript" => ((with_reducible show wpAny _ _ (subscriptTail _ _ (Value.ref _) (Value.int _ _)) _ _ _); k_dflt (refine frs_sub (by k_asm) (by k_mem) (by assumption) (by omega) (by omega) ?_); intro t9)); trivial
theorem forall_nil {l : List (Addr × Obj)} : ∀ p ∈ ([] : List (Addr × Obj)), p ∈ l := fun _ h => nomatch h
theorem u_kv : True := by (k_with "kv" => first | assumption | exact .inl rfl | exact .inr ⟨_, rfl⟩); trivial
theorem u_stsub : True := by (k_with "stsub" => ((try simp only [List.cons_append, List.nil_append]); (repeat (with_reducible refine List.forall_mem_cons.mpr ⟨by k_mem, ?_⟩)); first | with_reducible exact forall_nil | (intro p9 hp9; repeat (first | assumption | apply List.mem_cons_of_mem)))); trivial
theorem u_st : True := by (k_with "st" => exact St.mk (by assumption) (by assumption) (by k_asm) (by k_extra "stsub")); trivial
section
variable {w : World} {p : Program} {loose : List Str} {mean : ExcName → Option Value} {mg mb : Str → Option Value} {dp un : Nat} {gd : Option (List Code)} {cn : Str} {cs : Scope} {a : Addr} {ccd : Value} {cl : List (Str × Addr)} {outer : List Env} {A₀ : Around} {base h₀ : Heap} {L : Addr} {m : Str → Option Value} {s : Shared} {Q E : Value → Shared → Prop} {K T : List (Addr × Obj)} {c : Wa} {k q : Int} {fr : Int → Int} {wd : Int → Int → Int}
  (B : Below A₀ base outer h₀) (F : Fr h₀ L s.heap m) (X : (Mine.K w.params).In h₀) (T0 : Top p loose mean mg mb h₀) (hk : cs.kind = .function)
include B F X T0 hk
theorem c_place (S : St w c K T k q fr wd h₀ L s.heap) (hd : dp + 9 < recursionLimit) (hu : un + 72 < cLine) (k8 : k ≤ 8)
    {pg sl : Int} {kd : Str} {t t1 t2 : Tok} {kv : Value} {b : Bool} (hkv : KV b kv) (i0 : 0 ≤ pg) (i1 : pg < k) (j0 : 0 ≤ sl) (j1 : sl < 4) (hk9 : kd = "load" ∨ kd = "store")
    (ret : ∀ nk t h' tk', Newer nk T → St w c (nk ++ K) (nk ++ T) k q fr wd h₀ L h' → Fr h₀ L h' m → Q (.int (16 * fr pg + 4 * sl) t) { s with heap := h', toks := tk' }) :
    wpAny (model PySem.Challenge.rw_pf0221_01.prog w) (ktrTop dp un gd cn cs L a ccd cl outer) (call (.ref 881) [.ref c.wo, .int pg t, .int sl t1, .str kd t2, kv]) Q E s := by
  obtain ⟨ow, dk, ok, vs, oW, M, xs, ws, g, v, N⟩ := S
  have p1 := v.u.lk1 i0 i1 k8
  have p2 := v.u.en pg i0 i1
  have p3 := v.u.f0 pg i0 (by omega)
  have p4 := v.u.f8 pg i0 (by omega)
  cases b with
  | false =>
    refine c_place_p B F X T0 hk (T := (c.dqk, dictOf (quickE c.v c.wk c.lay dk) c.n) :: (dk, ok) :: (c.fl, listOf vs.toArray c.nf) :: (c.dW, oW) :: T) N hd hu (g.W.mono ?_) ?_ g.wo v.i g.lo ?_ hkv i0 (by omega) j0 j1 p1 rfl p2 p3 p4 hk9 ?_
    · intro p hp _; simp only [List.mem_cons]; exact .inr (.inr (.inr (.inr hp)))
    · simp only [List.mem_cons]; exact .inr (.inr (.inr (.inr g.Wo)))
    · intro p hp
      simp only [List.mem_cons] at hp
      rcases hp with rfl | rfl | rfl | rfl | hp
      · exact g.n1.symm
      · exact v.n1.symm
      · exact g.n2.symm
      · exact g.n3.symm
      · exact g.s1 p hp
    · intro ow' M' t' h' tk' hi' mx me F' N'
      exact ret [] _ _ _ Newer.nil ⟨ow', dk, ok, vs, oW, M', xs, ws, g, ⟨hi', v.t, v.n, v.z, v.lo2, v.s, v.n1, v.n2, v.n3, v.n4, v.f, v.tw, v.r, v.u.place i0 i1 mx me, v.b⟩, N'⟩ F'
  | true =>
    refine c_place_q B F X T0 hk (T := (c.fl, listOf vs.toArray c.nf) :: (c.dW, oW) :: T) (T1 := K) N hd hu (g.W.mono ?_) ?_ ?_ g.wo v.i g.lo v.lo2 ?_ ?_ ?_ g.n1 v.n1 v.n2 ?_ v.t v.n v.z hkv i0 (by omega) j0 j1 p1 rfl p2 p3 p4 hk9 ?_
    · intro p hp _; simp only [List.mem_cons]; exact .inr (.inr hp)
    · simp only [List.mem_cons]; exact .inr (.inr g.Q)
    · simp only [List.mem_cons]; exact .inr (.inr g.Wo)
    · intro p hp
      simp only [List.mem_cons] at hp
      rcases hp with rfl | rfl | hp
      · exact g.n2.symm
      · exact g.n3.symm
      · exact g.s1 p hp
    · intro p hp
      simp only [List.mem_cons] at hp
      rcases hp with rfl | rfl | hp
      · exact g.n4.symm
      · exact g.n5.symm
      · exact g.s2 p hp
    · intro p hp
      simp only [List.mem_cons] at hp
      rcases hp with rfl | rfl | hp
      · exact v.n3.symm
      · exact v.n4.symm
      · exact v.s p hp
    · intro p hp; simp only [List.mem_cons]; exact .inr (.inr (v.b p hp))
    · intro ow' M' dk' ok' xs' D ko t' h' tk' ht' hn' hz' hi' mx me lo' F' N' l9 q9 u9
      simp only [List.forall_mem_cons] at l9 q9
      obtain ⟨l1, l2, l3, l4, l5, l6⟩ := l9
      have hs : SepX c D (D, ko) ∨ True := .inr trivial
      have sp : ∀ p ∈ (D, ko) :: T, p ∈ T ∨ SepX c dk (p.1, p.2) := fun p hp => by
        rcases List.mem_cons.mp hp with rfl | hp
        · exact .inr ⟨Nat.ne_of_gt l1, Nat.ne_of_gt l2, Nat.ne_of_gt l4, Nat.ne_of_gt l5, Nat.ne_of_gt l3⟩
        · exact .inl hp
      refine ret [(D, ko)] _ _ _ (Newer.one l6) ⟨ow', dk', ok', vs, oW, M', xs', ws, g.to (dk := dk) (fun p hp => List.mem_cons_of_mem _ hp) sp, ⟨hi', ht', hn', hz', lo', ?_, ?_, ?_, ?_, ?_, v.f, v.tw.mono (fun p hp => List.mem_cons_of_mem _ hp), v.r, v.u.place i0 i1 mx me, ?_⟩, news_perm N' ?_⟩ F'
      · intro p hp
        rcases List.mem_cons.mp hp with rfl | hp
        · exact u9
        · rcases q9 with rfl | q9
          · exact v.s p hp
          · exact Nat.ne_of_lt (q9.2.2.2.2.2 p hp)
      · rcases q9 with rfl | q9
        · exact v.n1
        · exact Nat.ne_of_lt q9.1
      · rcases q9 with rfl | q9
        · exact v.n2
        · exact Nat.ne_of_lt q9.2.1
      · rcases q9 with rfl | q9
        · exact v.n3
        · exact Nat.ne_of_gt q9.2.2.2.1
      · rcases q9 with rfl | q9
        · exact v.n4
        · exact Nat.ne_of_gt q9.2.2.2.2.1
      · intro p hp
        rcases List.mem_cons.mp hp with rfl | hp
        · exact List.mem_cons_self
        · exact List.mem_cons_of_mem _ (v.b p hp)
      · intro p hp
        simp only [LD, List.mem_cons, List.cons_append, List.nil_append] at hp ⊢
        grind
theorem u_place : True := by (k_with "ctr" => ((with_reducible show wpAny _ _ (call (Value.ref 881) _) _ _ _); k_dflt (refine c_place (by k_asm) (by k_asm) (by k_asm) (by k_asm) (by k_extra "base") (by k_extra "st") (by ktr_room) (by ktr_units) (by first | assumption | omega) (by k_extra "kv") (by omega) (by omega) (by omega) (by omega) (by k_extra "kind") ?_); intro nk9 t9 h' tk' nw9 S9 F'; obtain ⟨ow9, dk9, ok9, vs9, oW9, M9, xs9, ws9, g9, v9, N9⟩ := S9; have mi9 := g9.mem; have hwo9 := g9.Wo; obtain ⟨vm9, mm19, mm29, mm39, mm49⟩ := id mi9; obtain ⟨ss19, ss29, ss39, ss49⟩ := g9.ss; obtain ⟨vn19, vn29, vn39, vn49, vs59⟩ := v9.nn; have di9 := v9.i; have hf9 := v9.f; have tw9 := v9.tw; have rw9 := v9.r; have lo9 := g9.lo; dsimp only [LD] at N9; try dsimp only)); trivial
end
theorem wd_set {w : World} {A : Around} {E : Value → Shared → Prop} {s : Shared} {h₀ : Heap} {L d a : Addr} {m : Str → Option Value} {news tl : List (Addr × Obj)} {g : Obj → List (Addr × Obj)} {o : Obj} {ws : Xs} {ko : Obj} {wd : Int → Int → Int} {f sl x : Int} {t : Tok} {Q : Unit → Shared → Prop} (hu : A.units + 1 < cLine) (F : Fr h₀ L s.heap m) (N : News h₀ L s.heap news) (U : UpdF d o news g) (ht : TupD w tl o ws) (hs : ∀ p ∈ tl, p ∈ news) (hk : (a, ko) ∈ news) (hi : KeyO w (wkey f sl) ko)
    (hr : WRel ws wd) (f0 : 0 ≤ f) (f8 : f < 8) (s0 : 0 ≤ sl) (s4 : sl < 4)
    (h : ∀ h' o' ws' tk', Fr h₀ L h' m → News h₀ L h' (g o') → TupD w ((a, ko) :: tl) o' ws' → WRel ws' (put2 wd f sl x) → Q () { s with heap := h', toks := tk' }) :
    wpAny (model PySem.Challenge.rw_pf0221_01.prog w) A (setItem (.ref d) (.ref a) (.int x t)) Q E s :=
  have hz : ws.length ≤ 32 := by obtain ⟨_, _, _, _, _, _, nd⟩ := ht; exact hr.len nd
  tupd_set hu F N U ht hs hk hi (by omega) fun h' o' F' N' d' tk' => h h' o' _ tk' F' N' d' (hr.set a f0 f8 s0 s4)
theorem u_wset : True := by (k_with "seti" => ((with_reducible show wpAny _ _ (setItem (Value.ref _) (Value.ref _) _) _ _ _); k_dflt (refine' wd_set ?zzu ?zzF ?zzN ?zzU ?zzt ?zzq ?zzk ?zzi ?zzr ?zza ?zzb ?zzc ?zzd ?_; (case zzu => ktr_units); (case zzF => k_asm); (case zzN => k_asm); (case zzt => assumption); (case zzr => assumption); (case zzU => k_updF); (case zzq => k_extra "stk"); (case zzk => k_mem); (case zzi => assumption); (case zza => omega); (case zzb => omega); (case zzc => omega); (case zzd => omega)); intro h' oW' ws' tk' F' N' dw9 r9; try dsimp only at N')); trivial
theorem u_stk : True := by (k_with "stk" => (intro p9 hp9; have hp9 := Inv.b (by assumption) p9 hp9; repeat (first | assumption | apply List.mem_cons_of_mem))); trivial
theorem St.stored {w : World} {c : Wa} {K T nk : List (Addr × Obj)} {k q : Int} {fr : Int → Int} {wd : Int → Int → Int} {dk D : Addr} {ok ow ow' oW' ko : Obj} {vs : List Value} {oW : Obj} {M : Int → Int} {xs ws ws' : Xs} {h₀ : Heap} {L : Addr} {h : Heap} {j f sl v : Int}
    (hg : Good w c (nk ++ T)) (hv : Inv w c (nk ++ K) (nk ++ T) k q fr wd dk ok ow vs oW M xs ws) (nw : Newer nk T) (l1 : AllLt D ((c.dw, ow) :: (c.dqk, ow) :: (dk, ow) :: (c.fl, ow) :: (c.dW, ow) :: (nk ++ T)))
    (di : IntD w ow' (put M j v)) (hj : j = 4 * f + sl) (f0 : 0 ≤ f) (f8 : f < 8) (s0 : 0 ≤ sl) (s4 : sl < 4) (tw : TupD w ((D, ko) :: (nk ++ K)) oW' ws') (hr : WRel ws' (put2 wd f sl v))
    (N : News h₀ L h ((D, ko) :: LD c ow' dk ok vs oW' (nk ++ T))) : Newer ((D, ko) :: nk) T ∧ St w c (((D, ko) :: nk) ++ K) (((D, ko) :: nk) ++ T) k q fr (put2 wd f sl v) h₀ L h := by
  subst hj
  obtain ⟨a1, a2, a3, a4, a5, a6⟩ := l1
  have l6 := of_allLt a6
  have sp : ∀ p ∈ ((D, ko) :: nk) ++ T, p ∈ nk ++ T ∨ SepX c dk p := fun p hp => by
    rcases List.mem_cons.mp hp with rfl | hp
    · exact .inr ⟨Nat.ne_of_gt a1, Nat.ne_of_gt a2, Nat.ne_of_gt a4, Nat.ne_of_gt a5, Nat.ne_of_gt a3⟩
    · exact .inl hp
  have sub : ∀ p ∈ nk ++ K, p ∈ ((D, ko) :: nk) ++ K := fun p hp => List.mem_cons_of_mem _ hp
  have hv' := hv.to (T2 := ((D, ko) :: nk) ++ T) (fun p hp => List.mem_cons_of_mem _ (hv.b p hp)) sp
  refine ⟨Newer.trans (n2 := [(D, ko)]) nw (Newer.one l6), ow', dk, ok, vs, oW', _, xs, ws', hg.to (dk := dk) (fun p hp => List.mem_cons_of_mem _ hp) sp, ⟨di, hv.t.mono sub, hv.n, hv.z, hv.lo2, hv'.s, hv.n1, hv.n2, hv.n3, hv.n4, hv.f, tw, hr, hv.u.store f0 f8 s0 s4, ?_⟩, news_perm N ?_⟩
  · intro p hp
    rcases List.mem_cons.mp hp with rfl | hp
    · exact List.mem_cons_self
    · exact List.mem_cons_of_mem _ (hv.b p hp)
  · intro p hp
    simp only [LD, List.mem_cons, List.cons_append] at hp ⊢
    grind
theorem fmod32 (x : Int) : x.fmod (2 ^ Int.toNat 32) = x % 4294967296 := Int.fmod_eq_emod_of_nonneg x (by decide)
section
variable {w : World} {p : Program} {loose : List Str} {mean : ExcName → Option Value} {mg mb : Str → Option Value} {dp un : Nat} {gd : Option (List Code)} {cn : Str} {cs : Scope} {a : Addr} {ccd : Value} {cl : List (Str × Addr)} {outer : List Env} {A₀ : Around} {base h₀ : Heap} {L : Addr} {m : Str → Option Value} {s : Shared} {Q E : Value → Shared → Prop} {K T : List (Addr × Obj)} {c : Wa} {k q : Int} {fr : Int → Int} {wd : Int → Int → Int}
  (B : Below A₀ base outer h₀) (F : Fr h₀ L s.heap m) (X : (Mine.K w.params).In h₀) (T0 : Top p loose mean mg mb h₀) (hk : cs.kind = .function)
include B F X T0 hk
theorem c_store (S : St w c K T k q fr wd h₀ L s.heap) (hd : dp + 10 < recursionLimit) (hu : un + 80 < cLine) (k8 : k ≤ 8)
    {pg sl x : Int} {t t1 t2 : Tok} {kv : Value} {b : Bool} (hkv : KV b kv) (i0 : 0 ≤ pg) (i1 : pg < k) (j0 : 0 ≤ sl) (j1 : sl < 4)
    (ret : ∀ nk h' tk', Newer nk T → St w c (nk ++ K) (nk ++ T) k q fr (put2 wd (fr pg) sl (x % 4294967296)) h₀ L h' → Fr h₀ L h' m → Q .none { s with heap := h', toks := tk' }) :
    wpAny (model PySem.Challenge.rw_pf0221_01.prog w) (ktrTop dp un gd cn cs L a ccd cl outer) (call (.ref 888) [.ref c.wo, .int pg t, .int sl t1, .int x t2, kv]) Q E s := by
  obtain ⟨ow, dk, ok, vs, oW, M, xs, ws, g, v, N⟩ := S
  have N : News h₀ L s.heap ((c.dw, ow) :: (c.dqk, dictOf (quickE c.v c.wk c.lay dk) c.n) :: (dk, ok) :: (c.fl, listOf vs.toArray c.nf) :: (c.dW, oW) :: T) := N
  have p3 := v.u.f0 pg i0 (by omega)
  have p4 := v.u.f8 pg i0 (by omega)
  have hwo := g.Wo
  have hw9 := g.wo
  have hm := g.mem
  have hf := v.f
  obtain ⟨gn1, gn2, gn3, gn4, gn5, gn6⟩ := g.nn
  obtain ⟨vm9, mm1, mm2, mm3, mm4⟩ := id hm
  unfold WoO at hw9
  k_extra "enter"
  k_steps
  first | rw [fmod32] at r9 | rw [show ((2 : Int) ^ Int.toNat 32) = 4294967296 by decide] at r9
  have e9 := St.stored g9 v9 nw9 l1 d' (by omega) p3 p4 j0 j1 dw9 r9 (news_perm (by k_asm) (by k_extra "stsub"))
  exact ret _ _ _ e9.1 e9.2 (by k_asm)
theorem u_store : True := by (k_with "ctr" => ((with_reducible show wpAny _ _ (call (Value.ref 888) _) _ _ _); k_dflt (refine c_store (by k_asm) (by k_asm) (by k_asm) (by k_asm) (by k_extra "base") (by k_extra "st") (by ktr_room) (by ktr_units) (by first | assumption | omega) (by k_extra "kv") (by omega) (by omega) (by omega) (by omega) ?_); intro nk9 h' tk' nw9 S9 F'; obtain ⟨ow9, dk9, ok9, vs9, oW9, M9, xs9, ws9, g9, v9, N9⟩ := S9; have mi9 := g9.mem; have hwo9 := g9.Wo; obtain ⟨vm9, mm19, mm29, mm39, mm49⟩ := id mi9; obtain ⟨ss19, ss29, ss39, ss49⟩ := g9.ss; obtain ⟨vn19, vn29, vn39, vn49, vs59⟩ := v9.nn; have di9 := v9.i; have hf9 := v9.f; have tw9 := v9.tw; have rw9 := v9.r; have lo9 := g9.lo; dsimp only [LD] at N9; try dsimp only)); trivial
end
theorem u_fset : True := by (k_with "seti" => ((with_reducible show wpAny _ _ (setItem (Value.ref _) (Value.int _ _) (Value.int _ _)) _ _ _); k_dflt (refine' frs_set ?zzF ?zzN ?zzU ?zzf ?zza ?zzb ?_; (case zzf => assumption); (case zzF => k_asm); (case zzN => k_asm); (case zzU => k_updF); (case zza => omega); (case zzb => omega)); intro h' vs' F' N' f9; try dsimp only at N')); trivial
section
variable {w : World} {p : Program} {loose : List Str} {mean : ExcName → Option Value} {mg mb : Str → Option Value} {dp un : Nat} {gd : Option (List Code)} {cn : Str} {cs : Scope} {a : Addr} {ccd : Value} {cl : List (Str × Addr)} {outer : List Env} {A₀ : Around} {base h₀ : Heap} {L : Addr} {m : Str → Option Value} {s : Shared} {Q E : Value → Shared → Prop} {K T : List (Addr × Obj)} {c : Wa} {k q : Int} {fr : Int → Int} {wd : Int → Int → Int}
  (B : Below A₀ base outer h₀) (F : Fr h₀ L s.heap m) (X : (Mine.K w.params).In h₀) (T0 : Top p loose mean mg mb h₀) (hk : cs.kind = .function)
include B F X T0 hk
theorem c_stood (S : St w c K T k q fr wd h₀ L s.heap) (hd : dp + 7 < recursionLimit) (hu : un + 56 < cLine) (k8 : k ≤ 8)
    {pg x : Int} {t t1 : Tok} (i0 : 0 ≤ pg) (i1 : pg < k) (x0 : 0 ≤ x) (x8 : x < 8)
    (ret : ∀ h' tk', St w c K T k q (put fr pg x) wd h₀ L h' → Fr h₀ L h' m → Q (.bool true) { s with heap := h', toks := tk' }) :
    wpAny (model PySem.Challenge.rw_pf0221_01.prog w) (ktrTop dp un gd cn cs L a ccd cl outer) (call (.ref 895) [.ref c.wo, .int pg t, .int x t1]) Q E s := by
  obtain ⟨ow, dk, ok, vs, oW, M, xs, ws, g, v, N⟩ := S
  have N : News h₀ L s.heap ((c.dw, ow) :: (c.dqk, dictOf (quickE c.v c.wk c.lay dk) c.n) :: (dk, ok) :: (c.fl, listOf vs.toArray c.nf) :: (c.dW, oW) :: T) := N
  have p3 := v.u.f0 pg i0 (by omega)
  have p4 := v.u.f8 pg i0 (by omega)
  have hwo := g.Wo
  have hw9 := g.wo
  have hf := v.f
  have hi := v.i
  have lo := g.lo
  have hT := g.Tb
  have hq := g.Q
  obtain ⟨v1, m1, m2, hl, hm, b1, b2, b3, b4⟩ := id hT
  obtain ⟨gn1, gn2, gn3, gn4, gn5, gn6⟩ := g.nn
  obtain ⟨ss1, ss2, ss3, ss4⟩ := g.ss
  obtain ⟨vn1, vn2, vn3, vn4, vs5⟩ := v.nn
  unfold WoO at hw9
  obtain ⟨e, lk2⟩ : ∃ e, M (244 + pg) = e := ⟨_, rfl⟩
  have he : IsE e (fr pg) := lk2 ▸ v.u.en pg i0 i1
  have lk1 : M (240 + 16 * pg / 64) = 1024 * (61 + 16 * pg / 64) + 1 := by rw [show 16 * pg / 64 = pg / 4 by omega]; exact v.u.lk1 i0 i1 k8
  k_extra "enter"
  k_steps
  have sp2 : ∀ p ∈ (c.dw, ow') :: (c.fl, W.listOf vs.toArray c.nf) :: (c.dW, oW) :: T, p.1 ≠ c.dqk := List.forall_mem_cons.mpr ⟨gn1, List.forall_mem_cons.mpr ⟨Ne.symm gn4, List.forall_mem_cons.mpr ⟨Ne.symm gn5, ss2⟩⟩⟩
  have sp3 : ∀ p ∈ (c.dw, ow') :: (c.fl, W.listOf vs.toArray c.nf) :: (c.dW, oW) :: T, p.1 ≠ dk := List.forall_mem_cons.mpr ⟨vn1, List.forall_mem_cons.mpr ⟨Ne.symm vn3, List.forall_mem_cons.mpr ⟨Ne.symm vn4, vs5⟩⟩⟩
  have sT : ∀ p ∈ T, p ∈ (c.dw, ow') :: (c.fl, W.listOf vs.toArray c.nf) :: (c.dW, oW) :: T := by k_extra "stsub"
  refine c_forget (by k_asm) (by k_asm) (by k_asm) (by k_asm) (by k_extra "base") (T := (c.dw, ow') :: (c.fl, W.listOf vs.toArray c.nf) :: (c.dW, oW) :: T) (T1 := K) (news_perm (by k_asm) (by k_extra "stsub")) (by ktr_room) (by ktr_units) (hl.mono sT) (sT _ hq) v.lo2 sp2 sp3 vn2 (fun p hp => sT _ (v.b p hp)) v.t v.n v.z (by omega) (by omega) ?_
  intro dk' ok' h2 tk2 ht2 lo2 F2 N2 l2
  obtain ⟨l21, l22, l23, l24, l25, l26⟩ : c.dqk < dk' ∧ dk < dk' ∧ c.dw < dk' ∧ c.fl < dk' ∧ c.dW < dk' ∧ ∀ p ∈ T, p.1 < dk' := by
    simp only [List.forall_mem_cons] at l2; exact l2
  rw [show 16 * pg / 16 = pg by omega] at ht2
  k_steps
  have nn1 : @Ne Nat c.dqk dk' := Nat.ne_of_lt l21
  have nn2 : @Ne Nat c.dw dk' := Nat.ne_of_lt l23
  have nn3 : @Ne Nat dk' c.fl := Nat.ne_of_gt l24
  have nn4 : @Ne Nat dk' c.dW := Nat.ne_of_gt l25
  have nn5 : ∀ p ∈ T, p.1 ≠ dk' := fun p hp => Nat.ne_of_lt (l26 p hp)
  k_steps
  rw [beq_self_eq_true]
  rw [show 16 * pg / 16 = pg by omega] at mx9 me9
  exact ret _ _ (St.mk g ⟨d', ht2, v.n.forget, Nat.le_trans (List.length_filter_le _ _) v.z, lo2, nn5, nn2, nn1, nn3, nn4, f9, v.tw, v.r, v.u.move i0 i1 x0 x8 mx9 me9, v.b⟩ (by k_asm) (by k_extra "stsub")) (by k_asm)
theorem u_stood : True := by (k_with "ctr" => ((with_reducible show wpAny _ _ (call (Value.ref 895) _) _ _ _); k_dflt (refine c_stood (by k_asm) (by k_asm) (by k_asm) (by k_asm) (by k_extra "base") (by k_extra "st") (by ktr_room) (by ktr_units) (by first | assumption | omega) (by omega) (by omega) (by omega) (by omega) ?_); intro h' tk' S9 F'; obtain ⟨ow9, dk9, ok9, vs9, oW9, M9, xs9, ws9, g9, v9, N9⟩ := S9; have mi9 := g9.mem; have hwo9 := g9.Wo; obtain ⟨vm9, mm19, mm29, mm39, mm49⟩ := id mi9; obtain ⟨ss19, ss29, ss39, ss49⟩ := g9.ss; obtain ⟨vn19, vn29, vn39, vn49, vs59⟩ := v9.nn; have di9 := v9.i; have hf9 := v9.f; have tw9 := v9.tw; have rw9 := v9.r; have lo9 := g9.lo; dsimp only [LD] at N9; try dsimp only)); trivial
end
local macro_rules | `(tactic| walk_at "exec Assign cons ListComp") => `(tactic| (k_here; k_extra "lca"))
local macro_rules | `(tactic| walk_at "eval ListComp") => `(tactic| (k_here; k_extra "lce"))
theorem lc_assign {prog : Program} {w : World} {A : Around} {E : Value → Shared → Prop} {s : Shared} {h₀ : Heap} {L : Addr} {m : Str → Option Value} {env : Env} {elt iter : Expr} {x y : Str} {px py : Pos} {scope : Scope} {cl : List (Str × Addr)} {pos spos : Pos} {Q : Flow → Shared → Prop} (F₀ : Fr h₀ L s.heap m) (hLe : env.locals = L)
    (hsw : swapsWith (.ListComp elt [⟨.Name x px, iter, [], 0⟩] scope pos) (some (.Name y py)) spos.line env = pure true)
    (hclos : closureFor scope env = pure cl) (hcell : ∀ z ∈ scope.names, z.2 ≠ .cell) (hkind : scope.kind = .function)
    (hnames : ∀ z ∈ scope.names, z.2 = .local → scope.names.lookup z.1 = some .local) (hx : scope.names.lookup x = some .local)
    (hy : env.kindOf y = some .local) (hp : (env.scope.kind == .class || (env.scope.kind == .module && env.locals != env.globals)) = false)
    (h : wpAny (model prog w) A (eval iter env) (fun xv s₁ => DcQ (LCg.CompSrc prog w A h₀ L m env elt x scope cl (fun s₂ => LCg.FinA h₀ L m s₂ y Q) xv s₁)) E s)
    (hs : ∀ x, foldedSetIterable iter env x = pure x := by intro _; rfl) :
    wpAny (model prog w) A (exec (.Assign [.Name y py] (.ListComp elt [⟨.Name x px, iter, [], 0⟩] scope pos) spos) env) Q E s :=
  LCg.Assign_ListComp_U F₀ hLe hsw hclos hcell hkind hnames hx hy hp h hs
theorem lc_eval {prog : Program} {w : World} {A : Around} {E : Value → Shared → Prop} {s : Shared} {h₀ : Heap} {L : Addr} {m : Str → Option Value} {env : Env} {elt iter : Expr} {x : Str} {px : Pos} {scope : Scope} {cl : List (Str × Addr)} {pos : Pos} {Q : Value → Shared → Prop} (F₀ : Fr h₀ L s.heap m)
    (hclos : closureFor scope env = pure cl) (hcell : ∀ y ∈ scope.names, y.2 ≠ .cell) (hkind : scope.kind = .function)
    (hnames : ∀ y ∈ scope.names, y.2 = .local → scope.names.lookup y.1 = some .local) (hx : scope.names.lookup x = some .local)
    (h : wpAny (model prog w) A (eval iter env) (fun xv s₁ => DcQ (LCg.CompSrc prog w A h₀ L m env elt x scope cl (fun s₂ => LCg.FinE h₀ L m s₂ Q) xv s₁)) E s)
    (hs : ∀ x, foldedSetIterable iter env x = pure x := by intro _; rfl) :
    wpAny (model prog w) A (eval (.ListComp elt [⟨.Name x px, iter, [], 0⟩] scope pos) env) Q E s :=
  LCg.ListComp_U F₀ hclos hcell hkind hnames hx h hs
theorem u_lca : True := by (k_with "lca" => (have zz9 := Inv.b (by assumption); clear zz9; k_dflt (refine lc_assign (F₀ := by k_asm) (by rfl) (by with_unfolding_all rfl) (by with_unfolding_all rfl) (by decide) (by rfl) (by decide) (by rfl) (by rfl) (by rfl) ?_))); trivial
theorem u_lce : True := by (k_with "lce" => (have zz9 := Inv.b (by assumption); clear zz9; k_dflt (refine lc_eval (F₀ := by k_asm) (by with_unfolding_all rfl) (by decide) (by rfl) (by decide) (by rfl) ?_))); trivial
theorem rest_loop {w : World} {A : Around} {s : Shared} {h₀ : Heap} {L : Addr} {m : Str → Option Value} {env : Env} {elt : Expr} {x : Str} {scope : Scope} {cl : List (Str × Addr)} {P : Nat → Value → Prop} {Fin : List Value → List (Addr × Obj) → Prop} {c : Wa} {K T1 : List (Addr × Obj)} {k q : Int} {fr : Int → Int} {wd : Int → Int → Int} (val : Nat → Int) (n : Nat)
    (turn : ∀ i ys v I oI C oC D m₂ h tk E' nk, i < n → P i v → LCg.NsObj oC m₂ → m₂ x = some v → Fr h₀ L h m → Newer nk T1 → St w c (nk ++ K) ((I, oI) :: (C, oC) :: (D, LCg.lst ys) :: (nk ++ T1)) k q fr wd h₀ L h →
      wpAny (model PySem.Challenge.rw_pf0221_01.prog w) A (eval elt (compEnvC scope cl C env)) (fun y s' => DcQ (∃ nk2 h' tk' t, y = .int (val i) t ∧ s' = { s with heap := h', toks := tk' } ∧ Newer nk2 ((I, oI) :: (C, oC) :: (D, LCg.lst ys) :: (nk ++ T1)) ∧
        St w c (nk2 ++ (nk ++ K)) (nk2 ++ ((I, oI) :: (C, oC) :: (D, LCg.lst ys) :: (nk ++ T1))) k q fr wd h₀ L h' ∧ Fr h₀ L h' m)) E' { s with heap := h, toks := tk })
    (fin : ∀ ys nk ow dk ok vs oW M xs ws, IntsAre ys ((List.range n).map val) → Newer nk T1 → Good w c (nk ++ T1) → Inv w c (nk ++ K) (nk ++ T1) k q fr wd dk ok ow vs oW M xs ws → Fin ys (LD c ow dk ok vs oW (nk ++ T1))) :
    ∀ j i ys nk ow dk ok vs oW M xs ws, i + j = n → IntsAre ys ((List.range i).map val) → Newer nk T1 → Good w c (nk ++ T1) → Inv w c (nk ++ K) (nk ++ T1) k q fr wd dk ok ow vs oW M xs ws →
      LCg.CompRest PySem.Challenge.rw_pf0221_01.prog w A h₀ L m env elt x scope cl s (fun _ => True) P Fin j i ys (LD c ow dk ok vs oW (nk ++ T1))
  | 0, i, ys, nk, ow, dk, ok, vs, oW, M, xs, ws, e, hy, hn, hg, hv => by
    obtain rfl : i = n := e
    exact fin ys nk ow dk ok vs oW M xs ws hy hn hg hv
  | j + 1, i, ys, nk, ow, dk, ok, vs, oW, M, xs, ws, e, hy, hn, hg, hv => by
    refine LCg.CompRest.succ fun v I oI C oC D m₂ h tk E' hP hC hx F N off ne => ?_
    have o3 := off.mem
    have a1 := o3 (c.dw, ow) (by simp)
    have a2 := o3 (c.dqk, dictOf (quickE c.v c.wk c.lay dk) c.n) (by simp)
    have a3 := o3 (dk, ok) (by simp)
    have a4 := o3 (c.fl, listOf vs.toArray c.nf) (by simp)
    have a5 := o3 (c.dW, oW) (by simp)
    have a6 : ∀ p ∈ nk ++ T1, p.1 ≠ I ∧ p.1 ≠ C ∧ p.1 ≠ D := fun p hp => o3 p (by simp only [List.mem_cons]; exact .inr (.inr (.inr (.inr (.inr hp)))))
    have sp : ∀ p ∈ (I, oI) :: (C, oC) :: (D, LCg.lst ys) :: (nk ++ T1), p ∈ nk ++ T1 ∨ SepX c dk p := fun p hp => by
      simp only [List.mem_cons] at hp
      rcases hp with rfl | rfl | rfl | hp
      · exact .inr ⟨a1.1.symm, a2.1.symm, a4.1.symm, a5.1.symm, a3.1.symm⟩
      · exact .inr ⟨a1.2.1.symm, a2.2.1.symm, a4.2.1.symm, a5.2.1.symm, a3.2.1.symm⟩
      · exact .inr ⟨a1.2.2.symm, a2.2.2.symm, a4.2.2.symm, a5.2.2.symm, a3.2.2.symm⟩
      · exact .inl hp
    have up : ∀ p ∈ nk ++ T1, p ∈ (I, oI) :: (C, oC) :: (D, LCg.lst ys) :: (nk ++ T1) := fun p hp => List.mem_cons_of_mem _ (List.mem_cons_of_mem _ (List.mem_cons_of_mem _ hp))
    have S : St w c (nk ++ K) ((I, oI) :: (C, oC) :: (D, LCg.lst ys) :: (nk ++ T1)) k q fr wd h₀ L h := St.mk (hg.to up sp) (hv.to (fun p hp => up p (hv.b p hp)) sp) N (fun p hp => by
      simp only [LD, List.mem_cons] at hp ⊢
      grind)
    refine wpAny_mono (turn i ys v I oI C oC D m₂ h tk E' nk (by omega) hP hC hx F hn S) (fun y s₂ hd => ?_) fun _ _ z => z
    unfold DcQ at hd
    obtain ⟨nk2, h', tk', t, rfl, rfl, nw2, ⟨ow', dk', ok', vs', oW', M', xs', ws', g', v', N'⟩, F'⟩ := hd
    have mI : (I, oI) ∈ nk2 ++ ((I, oI) :: (C, oC) :: (D, LCg.lst ys) :: (nk ++ T1)) := List.mem_append_right _ (by simp)
    have mC : (C, oC) ∈ nk2 ++ ((I, oI) :: (C, oC) :: (D, LCg.lst ys) :: (nk ++ T1)) := List.mem_append_right _ (by simp)
    have mD : (D, LCg.lst ys) ∈ nk2 ++ ((I, oI) :: (C, oC) :: (D, LCg.lst ys) :: (nk ++ T1)) := List.mem_append_right _ (by simp)
    have sub2 : ∀ p ∈ (nk2 ++ nk) ++ T1, p ∈ nk2 ++ ((I, oI) :: (C, oC) :: (D, LCg.lst ys) :: (nk ++ T1)) := fun p hp => by
      rw [List.append_assoc] at hp
      rcases List.mem_append.mp hp with hp | hp
      · exact List.mem_append_left _ hp
      · exact List.mem_append_right _ (up p hp)
    have g2 : Good w c ((nk2 ++ nk) ++ T1) := hg.to (dk := dk') (fun p hp => by rw [List.append_assoc]; exact List.mem_append_right _ hp) fun p hp => .inr ⟨g'.s1 p (sub2 p hp), g'.s2 p (sub2 p hp), g'.s3 p (sub2 p hp), g'.s4 p (sub2 p hp), v'.s p (sub2 p hp)⟩
    rw [← List.append_assoc] at v'
    have v2 : Inv w c ((nk2 ++ nk) ++ K) ((nk2 ++ nk) ++ T1) k q fr wd dk' ok' ow' vs' oW' M' xs' ws' := v'.to (fun p hp => by
      rw [List.append_assoc] at hp ⊢
      rcases List.mem_append.mp hp with hp | hp
      · exact List.mem_append_left _ hp
      · exact List.mem_append_right _ (hv.b p hp)) fun p hp => .inl (sub2 p hp)
    refine LCg.CompEnd.intro F' N' (LD c ow' dk' ok' vs' oW' ((nk2 ++ nk) ++ T1)) ?_ (LCg.Off3.of ?_) trivial (rest_loop val n turn fin j (i + 1) (ys ++ [.int (val i) t]) (nk2 ++ nk) ow' dk' ok' vs' oW' M' xs' ws' (by omega) ?_ (Newer.trans hn (Newer.sub nw2 up)) g2 v2)
    · intro p hp
      simp only [LD, List.mem_cons] at hp ⊢
      rcases hp with rfl | rfl | rfl | hp | hp | hp | hp | hp | hp
      · exact .inr (.inr (.inr (.inr (.inr mI))))
      · exact .inr (.inr (.inr (.inr (.inr mC))))
      · exact .inr (.inr (.inr (.inr (.inr mD))))
      · exact .inl hp
      · exact .inr (.inl hp)
      · exact .inr (.inr (.inl hp))
      · exact .inr (.inr (.inr (.inl hp)))
      · exact .inr (.inr (.inr (.inr (.inl hp))))
      · exact .inr (.inr (.inr (.inr (.inr (sub2 p hp)))))
    · intro p hp
      simp only [LD, List.mem_cons] at hp
      rcases hp with rfl | rfl | rfl | rfl | rfl | hp
      · exact ⟨(g'.s1 _ mI).symm, (g'.s1 _ mC).symm, (g'.s1 _ mD).symm⟩
      · exact ⟨(g'.s2 _ mI).symm, (g'.s2 _ mC).symm, (g'.s2 _ mD).symm⟩
      · exact ⟨(v'.s _ mI).symm, (v'.s _ mC).symm, (v'.s _ mD).symm⟩
      · exact ⟨(g'.s3 _ mI).symm, (g'.s3 _ mC).symm, (g'.s3 _ mD).symm⟩
      · exact ⟨(g'.s4 _ mI).symm, (g'.s4 _ mC).symm, (g'.s4 _ mD).symm⟩
      · rw [List.append_assoc] at hp
        rcases List.mem_append.mp hp with hp | hp
        · exact ⟨Nat.ne_of_gt (nw2 p hp (I, oI) (by simp)), Nat.ne_of_gt (nw2 p hp (C, oC) (by simp)), Nat.ne_of_gt (nw2 p hp (D, LCg.lst ys) (by simp))⟩
        · exact a6 p hp
    · rw [List.range_succ, List.map_append]
      exact hy.append (.cons _ _ .nil)
local macro_rules | `(tactic| walk_at "compareOp Eq ref ref") => `(tactic| (k_here; k_extra "eqref"))
theorem eq_lists {prog : Program} {w : World} {A : Around} {E : Value → Shared → Prop} {s : Shared} {h₀ : Heap} {L a b : Addr} {news : List (Addr × Obj)} {vs us : List Value} {ns : List Int} {Q : Value → Shared → Prop} (N : News h₀ L s.heap news) (ha : (a, LCg.lst vs) ∈ news) (hb : (b, LCg.lst us) ∈ news) (hi : IntsAre vs ns) (hi' : IntsAre us ns) (hu : A.units + 64 < cLine) (h : Q (.bool true) s) :
    wpAny (model prog w) A (compareOp .Eq (.ref a) (.ref b)) Q E s :=
  eq_intsK ⟨_, (N _ ha).1, rfl, _, rfl⟩ hi ⟨_, (N _ hb).1, rfl, _, rfl⟩ hi' hu (by rw [decide_eq_true rfl]; exact h)
theorem u_eqref : True := by (k_with "eqref" => ((with_reducible show wpAny _ _ (compareOp CmpOp.Eq (Value.ref _) (Value.ref _)) _ _ _); k_dflt (refine' eq_lists ?zzN ?zza ?zzb ?zzi ?zzj ?zzu ?_; (case zzN => k_asm); (case zza => k_mem); (case zzb => k_mem); (case zzi => assumption); (case zzj => assumption); (case zzu => ktr_units)))); trivial
theorem u_lookw : True := by (k_with "look" => exact look (v9.u.wd _ _ p3 p4 j0 j1) (by omega)); trivial
theorem wd_get {w : World} {A : Around} {E : Value → Shared → Prop} {s : Shared} {h₀ : Heap} {L d a : Addr} {news tl : List (Addr × Obj)} {o : Obj} {ws : Xs} {ko : Obj} {wd : Int → Int → Int} {f sl : Int} {u : Tok} {Q : Value → Shared → Prop} (hu : A.units + 1 < cLine) (N : News h₀ L s.heap news) (hp : (d, o) ∈ news) (ht : TupD w tl o ws) (hs : ∀ p ∈ tl, p ∈ news) (lo : (d == sysModules) = false) (hk : (a, ko) ∈ news) (hi : KeyO w (wkey f sl) ko)
    (hr : WRel ws wd) (h : ∀ t tk', Q (.int (wd f sl) t) { s with toks := tk' }) :
    wpAny (model PySem.Challenge.rw_pf0221_01.prog w) A (call (.builtin "dict.get") [.ref d, .ref a, .int 0 u]) Q E s :=
  tupd_get0 hu N hp ht hs lo hk hi fun tk' => by
    obtain ⟨t, e⟩ := hr.get f sl u
    rw [e]
    exact h t tk'
theorem u_wget : True := by (k_with "dget" => ((with_reducible show wpAny _ _ (call (Value.builtin "dict.get") [Value.ref _, Value.ref _, Value.int _ _]) _ _ _); k_dflt (refine' wd_get ?zzu ?zzN ?zzm ?zzt ?zzq ?zzl ?zzk ?zzi ?zzr ?_; (case zzt => assumption); (case zzr => assumption); (case zzu => ktr_units); (case zzN => k_asm); (case zzm => k_mem); (case zzq => k_extra "stk"); (case zzl => k_asm); (case zzk => k_mem); (case zzi => assumption)); intro t9 tk9; try dsimp only)); trivial
section
variable {w : World} {p : Program} {loose : List Str} {mean : ExcName → Option Value} {mg mb : Str → Option Value} {dp un : Nat} {gd : Option (List Code)} {cn : Str} {cs : Scope} {a : Addr} {ccd : Value} {cl : List (Str × Addr)} {outer : List Env} {A₀ : Around} {base h₀ : Heap} {L : Addr} {m : Str → Option Value} {s : Shared} {Q E : Value → Shared → Prop} {K T : List (Addr × Obj)} {c : Wa} {k q : Int} {fr : Int → Int} {wd : Int → Int → Int}
  (B : Below A₀ base outer h₀) (F : Fr h₀ L s.heap m) (X : (Mine.K w.params).In h₀) (T0 : Top p loose mean mg mb h₀) (hk : cs.kind = .function)
include B F X T0 hk
theorem c_right (S : St w c K T k q fr wd h₀ L s.heap) (hd : dp + 11 < recursionLimit) (hu : un + 88 < cLine) (k8 : k ≤ 8)
    {pg : Int} {t : Tok} {kv : Value} {b : Bool} (hkv : KV b kv) (i0 : 0 ≤ pg) (i1 : pg < k)
    (ret : ∀ nk h' tk', Newer nk T → St w c (nk ++ K) (nk ++ T) k q fr wd h₀ L h' → Fr h₀ L h' m → Q (.bool true) { s with heap := h', toks := tk' }) :
    wpAny (model PySem.Challenge.rw_pf0221_01.prog w) (ktrTop dp un gd cn cs L a ccd cl outer) (call (.ref 907) [.ref c.wo, .int pg t, kv]) Q E s := by
  obtain ⟨ow, dk, ok, vs, oW, M, xs, ws, g, v, N⟩ := S
  have N : News h₀ L s.heap ((c.dw, ow) :: (c.dqk, dictOf (quickE c.v c.wk c.lay dk) c.n) :: (dk, ok) :: (c.fl, listOf vs.toArray c.nf) :: (c.dW, oW) :: T) := N
  have p3 := v.u.f0 pg i0 (by omega)
  have p4 := v.u.f8 pg i0 (by omega)
  have hwo := g.Wo
  have hw9 := g.wo
  have hm := g.mem
  have hf := v.f
  have tw := v.tw
  have hr := v.r
  obtain ⟨gn1, gn2, gn3, gn4, gn5, gn6⟩ := g.nn
  obtain ⟨vm9, mm1, mm2, mm3, mm4⟩ := id hm
  unfold WoO at hw9
  k_extra "enter"
  k_steps
  rename_i oc1 oc2 oc3 oc4 dc1 dc2 dc3 dc4 hh1 of1 FF1 NN1 df1 hh2 tk2 rt1 rt2 rt3 rR rF rN rE
  unfold DcQ
  obtain ⟨T1, hT1⟩ : ∃ T1, T1 = [(L' + 1 + 1 + 1 + 1, of1), (L' + 1 + 1 + 1, oc2), (L' + 1 + 1, oc3), (L' + 1, oc4)] ++ T := ⟨_, rfl⟩
  have c1 : (L' + 1 + 1 + 1 + 1, of1) ∈ T1 := by rw [hT1]; simp
  have c2 : (L' + 1 + 1 + 1, oc2) ∈ T1 := by rw [hT1]; simp
  have c3 : (L' + 1 + 1, oc3) ∈ T1 := by rw [hT1]; simp
  have c4 : (L' + 1, oc4) ∈ T1 := by rw [hT1]; simp
  have sT : ∀ p ∈ T, p ∈ T1 := fun p hp => by rw [hT1]; exact List.mem_append_right _ hp
  have sX : ∀ p ∈ T1, p ∈ T ∨ SepX c dk p := fun p hp => by
    rw [hT1] at hp
    simp only [List.cons_append, List.nil_append, List.mem_cons] at hp
    obtain ⟨l1, l2, l3, l4, l5, l6⟩ := l1
    rcases hp with rfl | rfl | rfl | rfl | hp
    · exact .inr ⟨by show @Ne Nat _ _; omega, by show @Ne Nat _ _; omega, by show @Ne Nat _ _; omega, by show @Ne Nat _ _; omega, by show @Ne Nat _ _; omega⟩
    · exact .inr ⟨by show @Ne Nat _ _; omega, by show @Ne Nat _ _; omega, by show @Ne Nat _ _; omega, by show @Ne Nat _ _; omega, by show @Ne Nat _ _; omega⟩
    · exact .inr ⟨by show @Ne Nat _ _; omega, by show @Ne Nat _ _; omega, by show @Ne Nat _ _; omega, by show @Ne Nat _ _; omega, by show @Ne Nat _ _; omega⟩
    · exact .inr ⟨by show @Ne Nat _ _; omega, by show @Ne Nat _ _; omega, by show @Ne Nat _ _; omega, by show @Ne Nat _ _; omega, by show @Ne Nat _ _; omega⟩
    · exact .inl hp
  have g1 : Good w c ([] ++ T1) := g.to sT sX
  have v1 : Inv w c ([] ++ K) ([] ++ T1) k q fr wd dk ok ow vs oW M xs ws := v.to (fun p hp => sT p (v.b p hp)) sX
  refine LCg.CompSrc.range (by rfl) rF (news_perm (l' := LD c ow dk ok vs oW ([] ++ T1)) rN (by rw [hT1]; k_extra "stsub")) rR (by decide) (by rfl) (by size_fits) (fun gg => ?_)
  refine rest_loop (K := K) (T1 := T1) (k := k) (q := q) (fr := fr) (wd := wd) (fun i => wd (fr pg) (0 + (i : Int))) 4 ?turn ?fin 4 0 [] [] ow dk ok vs oW M xs ws rfl .nil Newer.nil g1 v1
  case turn =>
    intro i ys v9 I oI C oC D m₂ h tk E' nk i4 hP hC hx F' nw S9
    obtain ⟨t8, rfl⟩ := hP
    obtain ⟨ow9, dk9, ok9, vs9, oW9, M9, xs9, ws9, g9, v9, N9⟩ := S9
    dsimp only [LD] at N9
    have e1 := List.mem_append_right nk c1
    have e2 := List.mem_append_right nk c2
    have e3 := List.mem_append_right nk c3
    have e4 := List.mem_append_right nk c4
    have hwo9 := List.mem_append_right nk (sT _ hwo)
    have mi9 := g9.mem
    obtain ⟨vm9, mm19, mm29, mm39, mm49⟩ := id mi9
    have j0 : 0 ≤ 0 + (i : Int) := by omega
    have j1 : 0 + (i : Int) < 4 := by omega
    k_steps
    exact ⟨nk9, _, _, _, rfl, rfl, nw9, St.mk g9 v9 (by k_asm) (by k_extra "stsub"), by k_asm⟩
  case fin =>
    clear g1 v1 rF rN rE rR FF1 NN1 hf tw hr N
    intro ys nk ow9 dk9 ok9 vs9 oW9 M9 xs9 ws9 hy nw g9 v9
    unfold LCg.FinA
    intro D8 h8 tk8 F8 N8 o8
    obtain ⟨o81, o82, o83, o84, o85, o86⟩ := o8
    have sp8 : ∀ p ∈ (D8, LCg.lst ys) :: (nk ++ T1), p ∈ nk ++ T1 ∨ SepX c dk9 p := fun p hp => by
      rcases List.mem_cons.mp hp with rfl | hp
      · exact .inr ⟨Ne.symm o81, Ne.symm o82, Ne.symm o84, Ne.symm o85, Ne.symm o83⟩
      · exact .inl hp
    have g8 : Good w c ([] ++ ((D8, LCg.lst ys) :: (nk ++ T1))) := g9.to (fun p hp => List.mem_cons_of_mem _ hp) sp8
    have v8 : Inv w c ([] ++ (nk ++ K)) ([] ++ ((D8, LCg.lst ys) :: (nk ++ T1))) k q fr wd dk9 ok9 ow9 vs9 oW9 M9 xs9 ws9 := v9.to (fun p hp => List.mem_cons_of_mem _ (v9.b p hp)) sp8
    have e1 := List.mem_append_right nk c1
    have e4 := List.mem_append_right nk c4
    have hwo9 := List.mem_append_right nk (sT _ hwo)
    dsimp only [LD] at N8
    dsimp only
    k_steps
    rename_i hh3 tk3 ru1 ru2 ru3 rR rF rN rE
    unfold DcQ
    refine LCg.CompSrc.range (by rfl) rF (news_perm (l' := LD c ow9 dk9 ok9 vs9 oW9 ([] ++ ((D8, LCg.lst ys) :: (nk ++ T1)))) rN (by k_extra "stsub")) rR (by decide) (by rfl) (by size_fits) (fun gg2 => ?_)
    refine rest_loop (K := nk ++ K) (T1 := (D8, LCg.lst ys) :: (nk ++ T1)) (k := k) (q := q) (fr := fr) (wd := wd) (fun i => wd (fr pg) (0 + (i : Int))) 4 ?turn2 ?fin2 4 0 [] [] ow9 dk9 ok9 vs9 oW9 M9 xs9 ws9 rfl .nil Newer.nil g8 v8
    case turn2 =>
      clear g9 v9 g8 v8 rF rN rE rR
      intro i ys2 v9 I oI C oC D m₂ h tk E' nk2 i4 hP hC hx F' nw2 S9
      obtain ⟨t8, rfl⟩ := hP
      obtain ⟨ow9, dk9, ok9, vs9, oW9, M9, xs9, ws9, g9, v9, N9⟩ := S9
      dsimp only [LD] at N9
      have e1 := List.mem_append_right nk2 (List.mem_cons_of_mem (D8, LCg.lst ys) e1)
      have e4 := List.mem_append_right nk2 (List.mem_cons_of_mem (D8, LCg.lst ys) e4)
      have hwo9 := List.mem_append_right nk2 (List.mem_cons_of_mem (D8, LCg.lst ys) hwo9)
      have tw9 := v9.tw
      have rw9 := v9.r
      have lW9 := g9.lW
      have j0 : 0 ≤ 0 + (i : Int) := by omega
      have j1 : 0 + (i : Int) < 4 := by omega
      k_steps
      exact ⟨[], _, _, _, rfl, rfl, Newer.nil, St.mk g9 v9 (by k_asm) (by k_extra "stsub"), by k_asm⟩
    case fin2 =>
      clear g9 v9 g8 v8 rF rN rE rR
      intro ys2 nk2 ow9 dk9 ok9 vs9 oW9 M9 xs9 ws9 hy2 nw2 g9 v9
      unfold LCg.FinE
      intro D9 h9 tk9 F9 N9 o9
      dsimp only [LD] at N9
      dsimp only
      k_steps
      have sub9 : ∀ p ∈ (nk2 ++ nk) ++ T, p ∈ nk2 ++ (D8, LCg.lst ys) :: (nk ++ T1) := fun p hp => by
        rw [List.append_assoc] at hp
        rcases List.mem_append.mp hp with hp | hp
        · exact List.mem_append_left _ hp
        · rcases List.mem_append.mp hp with hp | hp
          · exact List.mem_append_right _ (List.mem_cons_of_mem _ (List.mem_append_left _ hp))
          · exact List.mem_append_right _ (List.mem_cons_of_mem _ (List.mem_append_right _ (sT p hp)))
      have S9 : St w c (nk2 ++ (nk ++ K)) ((nk2 ++ nk) ++ T) k q fr wd h₀ L h9 := St.drop (T2 := (nk2 ++ nk) ++ T) (St.mk g9 v9 (by k_asm) (by k_extra "stsub")) g (fun p hp => List.mem_append_right _ hp) (fun p hp => by
        rw [← List.append_assoc] at hp
        rcases List.mem_append.mp hp with hp | hp
        · exact List.mem_append_left _ hp
        · exact List.mem_append_right _ (v.b p hp)) sub9
      rw [← List.append_assoc] at S9
      refine ret (nk2 ++ nk) _ _ (Newer.trans (Newer.sub nw sT) (Newer.sub nw2 fun p hp => ?_)) S9 (by k_asm)
      rcases List.mem_append.mp hp with hp | hp
      · exact List.mem_cons_of_mem _ (List.mem_append_left _ hp)
      · exact List.mem_cons_of_mem _ (List.mem_append_right _ (sT p hp))
theorem u_right : True := by (k_with "ctr" => ((with_reducible show wpAny _ _ (call (Value.ref 907) _) _ _ _); k_dflt (refine c_right (by k_asm) (by k_asm) (by k_asm) (by k_asm) (by k_extra "base") (by k_extra "st") (by ktr_room) (by ktr_units) (by first | assumption | omega) (by k_extra "kv") (by omega) (by omega) ?_); intro nk9 h' tk' nw9 S9 F'; obtain ⟨ow9, dk9, ok9, vs9, oW9, M9, xs9, ws9, g9, v9, N9⟩ := S9; have mi9 := g9.mem; have hwo9 := g9.Wo; obtain ⟨vm9, mm19, mm29, mm39, mm49⟩ := id mi9; obtain ⟨ss19, ss29, ss39, ss49⟩ := g9.ss; obtain ⟨vn19, vn29, vn39, vn49, vs59⟩ := v9.nn; have di9 := v9.i; have hf9 := v9.f; have tw9 := v9.tw; have rw9 := v9.r; have lo9 := g9.lo; dsimp only [LD] at N9; try dsimp only)); trivial
end
def KeepsN (names : List Str) (m₀ m' : Str → Option Value) : Prop := ∀ z, z ∉ names → m' z = m₀ z
theorem KeepsN.refl {names : List Str} {m : Str → Option Value} : KeepsN names m m := fun _ _ => rfl
theorem KeepsN.set {names : List Str} {m₀ m : Str → Option Value} {x : Str} {v : Option Value} (h : KeepsN names m₀ m) (hx : x ∈ names) : KeepsN names m₀ (fun y => if y = x then v else m y) := fun z hz => by
  show (if z = x then v else m z) = m₀ z
  have e9 : z ≠ x := fun e => hz (by rw [e]; exact hx)
  rw [if_neg e9]
  exact h z hz
theorem KeepsN.one {a : Str} {m₀ m : Str → Option Value} (h : KeepsN [a] m₀ m) : ∃ u, m = fun z => if z = a then u else m₀ z := by
  refine ⟨m a, ?_⟩
  funext z
  by_cases h1 : z = a
  · simp [h1]
  · rw [if_neg h1]; exact h z (by simp [h1])
theorem KeepsN.two {a b : Str} {m₀ m : Str → Option Value} (h : KeepsN [a, b] m₀ m) : ∃ u v, m = fun z => if z = a then u else if z = b then v else m₀ z := by
  refine ⟨m a, m b, ?_⟩
  funext z
  by_cases h1 : z = a
  · simp [h1]
  · by_cases h2 : z = b
    · rw [if_neg h1, if_pos h2, h2]
    · rw [if_neg h1, if_neg h2]; exact h z (by simp [h1, h2])
/-- what a turn's end says -/
def TurnE (w : World) (c : Wa) (K T1 own : List (Addr × Obj)) (nk : List (Addr × Obj)) (h₀ : Heap) (L : Addr) (s₁ : Shared) (names : List Str) (m₀ : Str → Option Value) (Z : Int → Int → (Int → Int) → (Int → Int → Int) → Prop) (f : Flow) (s' : Shared) : Prop :=
  (f = .next ∨ f = .cont) ∧ ∃ nk2 m' h' tk' k' q' fr' wd', s' = { s₁ with heap := h', toks := tk' } ∧ KeepsN names m₀ m' ∧ Z k' q' fr' wd' ∧ Newer nk2 (own ++ (nk ++ T1)) ∧ St w c (nk2 ++ (nk ++ K)) (nk2 ++ (own ++ (nk ++ T1))) k' q' fr' wd' h₀ L h' ∧ Fr h₀ L h' m'
theorem loop_core {w : World} {A : Around} {E : Value → Shared → Prop} {s₂ : Shared} {env : Env} {h₀ : Heap} {x : Str} {body : List Stmt} {Q : Flow → Shared → Prop} {c : Wa} {K T1 : List (Addr × Obj)} {m₀ : Str → Option Value} {I : Addr} {fp wr : List Addr} {n : Nat} {P : Nat → Value → Prop} {Sx : Nat → Heap → Prop}
    {k q : Int} {fr : Int → Int} {wd : Int → Int → Int} {dk : Addr} {ok ow : Obj} {vs : List Value} {oW : Obj} {M : Int → Int} {xs ws : Xs} (names : List Str) (Z : Nat → Int → Int → (Int → Int) → (Int → Int → Int) → Prop)
    (W : Walks PySem.Challenge.rw_pf0221_01.prog w A I fp wr n P Sx) (hLf : env.locals ∉ fp) (hwr : ∀ b ∈ wr, h₀.get? b = none) (hfp : ∀ b ∈ fp, b = I ∨ ∃ o, (b, o) ∈ T1) (hI : ∀ p ∈ LD c ow dk ok vs oW T1, p.1 ≠ I) (hIw : I ∈ wr) (hwI : ∀ b ∈ wr, b = I)
    (hIo : ∀ i h, Sx i h → ∃ o, h.get? I = some o) (hst : Sx 0 s₂.heap) (F : Fr h₀ env.locals s₂.heap m₀) (g : Good w c T1) (v : Inv w c K T1 k q fr wd dk ok ow vs oW M xs ws) (N : News h₀ env.locals s₂.heap (LD c ow dk ok vs oW T1)) (z0 : Z 0 k q fr wd)
    (turn : ∀ i v m₁ h tk nk own k q fr wd, i < n → P i v → KeepsN names m₀ m₁ → Z i k q fr wd → Newer nk T1 → Fr h₀ env.locals h (fun y => if y = x then some v else m₁ y) → St w c (nk ++ K) (own ++ (nk ++ T1)) k q fr wd h₀ env.locals h →
      wpAny (model PySem.Challenge.rw_pf0221_01.prog w) A (execs body env) (fun f s' => DcQ (TurnE w c K T1 own nk h₀ env.locals s₂ names m₀ (Z (i + 1)) f s')) E { s₂ with heap := h, toks := tk })
    (done : ∀ h tk m₁ nk k q fr wd, KeepsN names m₀ m₁ → Z n k q fr wd → Newer nk T1 → St w c (nk ++ K) (nk ++ T1) k q fr wd h₀ env.locals h → Fr h₀ env.locals h m₁ → Q .next { s₂ with heap := h, toks := tk }) :
    LoopAtV PySem.Challenge.rw_pf0221_01.prog w A h₀ env x body Q E (.ref I) s₂ := by
  let J : Nat → (Str → Option Value) → List (Addr × Obj) → Prop := fun i m₁ news₁ => ∃ nk k q fr wd ow dk ok vs oW M xs ws, news₁ = LD c ow dk ok vs oW (nk ++ T1) ∧ KeepsN names m₀ m₁ ∧ Z i k q fr wd ∧ Newer nk T1 ∧ Good w c (nk ++ T1) ∧ Inv w c (nk ++ K) (nk ++ T1) k q fr wd dk ok ow vs oW M xs ws
  refine ⟨I, fp, wr, n, P, Sx, m₀, LD c ow dk ok vs oW T1, J, rfl, W, hLf, hwr, fun p hp hb => hI p hp (hwI _ hb), hst, F, N, ⟨[], k, q, fr, wd, ow, dk, ok, vs, oW, M, xs, ws, rfl, .refl, z0, Newer.nil, g, v⟩, ?_, ?_⟩
  · rintro i val m₁ news₁ s₁ own ⟨h, tk, rfl⟩ hin hP ⟨nk, k, q, fr, wd, ow, dk, ok, vs, oW, M, xs, ws, rfl, hm, hz, hn, hg, hv⟩ hoff hown hget hall hst₁ F₁ N₁
    have oI : ∀ p ∈ LD c ow dk ok vs oW (nk ++ T1), p.1 ≠ I := fun p hp e => hoff p hp (e ▸ hIw)
    have a1 := oI (c.dw, ow) (by simp)
    have a2 := oI (c.dqk, dictOf (quickE c.v c.wk c.lay dk) c.n) (by simp)
    have a3 := oI (dk, ok) (by simp)
    have a4 := oI (c.fl, listOf vs.toArray c.nf) (by simp)
    have a5 := oI (c.dW, oW) (by simp)
    have sp : ∀ p ∈ own ++ (nk ++ T1), p ∈ nk ++ T1 ∨ SepX c dk p := fun p hp => by
      rcases List.mem_append.mp hp with hp | hp
      · refine .inr ?_
        rcases hfp _ (hown p hp) with e | ⟨o, ho⟩
        · unfold SepX
          rw [e]
          exact ⟨Ne.symm a1, Ne.symm a2, Ne.symm a4, Ne.symm a5, Ne.symm a3⟩
        · have ho' : (p.1, o) ∈ nk ++ T1 := List.mem_append_right _ ho
          exact ⟨hg.s1 (p.1, o) ho', hg.s2 (p.1, o) ho', hg.s3 (p.1, o) ho', hg.s4 (p.1, o) ho', hv.s (p.1, o) ho'⟩
      · exact .inl hp
    have up : ∀ p ∈ nk ++ T1, p ∈ own ++ (nk ++ T1) := fun p hp => List.mem_append_right _ hp
    have S : St w c (nk ++ K) (own ++ (nk ++ T1)) k q fr wd h₀ env.locals h := St.mk (hg.to up sp) (hv.to (fun p hp => up p (hv.b p hp)) sp) N₁ (fun p hp => by
      simp only [LD, List.mem_cons, List.mem_append] at hp ⊢
      grind)
    obtain ⟨itO, hitO⟩ := hIo _ _ hst₁
    have hIf : I ∈ fp := W.sub I hIw
    have mI : (I, itO) ∈ own := hall I hIf (hwr I hIw) itO hitO
    refine wpAny_mono (turn i val m₁ h tk nk own k q fr wd hin hP hm hz hn F₁ S) (fun f s₃ hd => ?_) fun _ _ e => e
    unfold DcQ at hd
    obtain ⟨hf, nk2, m', h', tk', k', q', fr', wd', rfl, hm', hz', nw2, ⟨ow', dk', ok', vs', oW', M', xs', ws', g', v', N'⟩, F'⟩ := hd
    have mI' : (I, itO) ∈ nk2 ++ (own ++ (nk ++ T1)) := List.mem_append_right _ (List.mem_append_left _ mI)
    have sub2 : ∀ p ∈ (nk2 ++ nk) ++ T1, p ∈ nk2 ++ (own ++ (nk ++ T1)) := fun p hp => by
      rw [List.append_assoc] at hp
      rcases List.mem_append.mp hp with hp | hp
      · exact List.mem_append_left _ hp
      · exact List.mem_append_right _ (up p hp)
    have g2 : Good w c ((nk2 ++ nk) ++ T1) := hg.to (dk := dk') (fun p hp => by rw [List.append_assoc]; exact List.mem_append_right _ hp) fun p hp => .inr ⟨g'.s1 p (sub2 p hp), g'.s2 p (sub2 p hp), g'.s3 p (sub2 p hp), g'.s4 p (sub2 p hp), v'.s p (sub2 p hp)⟩
    rw [← List.append_assoc] at v'
    have v2 : Inv w c ((nk2 ++ nk) ++ K) ((nk2 ++ nk) ++ T1) k' q' fr' wd' dk' ok' ow' vs' oW' M' xs' ws' := v'.to (fun p hp => by
      rw [List.append_assoc] at hp ⊢
      rcases List.mem_append.mp hp with hp | hp
      · exact List.mem_append_left _ hp
      · exact List.mem_append_right _ (hv.b p hp)) fun p hp => .inl (sub2 p hp)
    have fin : LoopStepU h₀ env.locals wr own (J (i + 1)) { s₂ with heap := h, toks := tk } .next { s₂ with heap := h', toks := tk' } := by
      refine ⟨rfl, h', tk', m', LD c ow' dk' ok' vs' oW' ((nk2 ++ nk) ++ T1), rfl, F', news_perm N' ?_, ?_, nk2 ++ nk, k', q', fr', wd', ow', dk', ok', vs', oW', M', xs', ws', rfl, hm', hz', Newer.trans hn (Newer.sub nw2 up), g2, v2⟩
      · intro p hp
        rcases List.mem_append.mp hp with hp | hp
        · simp only [LD, List.mem_cons]
          exact .inr (.inr (.inr (.inr (.inr (List.mem_append_right _ (List.mem_append_left _ hp))))))
        · simp only [LD, List.mem_cons] at hp ⊢
          rcases hp with hp | hp | hp | hp | hp | hp
          · exact .inl hp
          · exact .inr (.inl hp)
          · exact .inr (.inr (.inl hp))
          · exact .inr (.inr (.inr (.inl hp)))
          · exact .inr (.inr (.inr (.inr (.inl hp))))
          · exact .inr (.inr (.inr (.inr (.inr (sub2 p hp)))))
      · intro p hp hb
        have e := hwI _ hb
        revert e
        simp only [LD, List.mem_cons] at hp
        rcases hp with rfl | rfl | rfl | rfl | rfl | hp
        · exact (g'.s1 _ mI').symm
        · exact (g'.s2 _ mI').symm
        · exact (v'.s _ mI').symm
        · exact (g'.s3 _ mI').symm
        · exact (g'.s4 _ mI').symm
        · rw [List.append_assoc] at hp
          rcases List.mem_append.mp hp with hp | hp
          · exact Nat.ne_of_gt (nw2 p hp (I, itO) (List.mem_append_left _ mI))
          · exact oI p (by simp only [LD, List.mem_cons]; exact .inr (.inr (.inr (.inr (.inr hp)))))
    rcases hf with rfl | rfl
    · exact .next fin
    · exact .cont fin
  · rintro h' tk m' news' F' N' _ ⟨nk, k, q, fr, wd, ow, dk, ok, vs, oW, M, xs, ws, rfl, hm, hz, hn, hg, hv⟩
    exact done h' tk m' nk k q fr wd hm hz hn ⟨ow, dk, ok, vs, oW, M, xs, ws, hg, hv, N'⟩ F'
theorem iter_rangeS {w : World} {A : Around} {E : Value → Shared → Prop} {s : Shared} {env : Env} {h₀ : Heap} {x : Str} {body : List Stmt} {Q : Flow → Shared → Prop} {c : Wa} {K T1 : List (Addr × Obj)} {m₀ : Str → Option Value} {r : Addr} {a₀ b₀ : Int} {t₀ u₀ v₀ : Tok} {n : Nat}
    {k q : Int} {fr : Int → Int} {wd : Int → Int → Int} {dk : Addr} {ok ow : Obj} {vs : List Value} {oW : Obj} {M : Int → Int} {xs ws : Xs} (names : List Str) (Z : Nat → Int → Int → (Int → Int) → (Int → Int → Int) → Prop)
    (hh : A.handled = none) (hr : IsRange s.heap r a₀ b₀ 1 t₀ u₀ v₀) (hsmall : Builtin.Range.small a₀ b₀ 1 = true) (hn : Builtin.Range.rangeSize a₀ b₀ 1 = (n : Int))
    (F : Fr h₀ env.locals s.heap m₀) (g : Good w c T1) (v : Inv w c K T1 k q fr wd dk ok ow vs oW M xs ws) (N : News h₀ env.locals s.heap (LD c ow dk ok vs oW T1)) (z0 : Z 0 k q fr wd)
    (turn : ∀ i v m₁ h tk nk own k q fr wd, i < n → (∃ t, v = .int (a₀ + (i : Int)) t) → KeepsN names m₀ m₁ → Z i k q fr wd → Newer nk T1 → Fr h₀ env.locals h (fun y => if y = x then some v else m₁ y) → St w c (nk ++ K) (own ++ (nk ++ T1)) k q fr wd h₀ env.locals h →
      wpAny (model PySem.Challenge.rw_pf0221_01.prog w) A (execs body env) (fun f s' => DcQ (TurnE w c K T1 own nk h₀ env.locals s names m₀ (Z (i + 1)) f s')) E { s with heap := h, toks := tk })
    (done : ∀ h tk m₁ nk k q fr wd, KeepsN names m₀ m₁ → Z n k q fr wd → Newer nk T1 → St w c (nk ++ K) (nk ++ T1) k q fr wd h₀ env.locals h → Fr h₀ env.locals h m₁ → Q .next { s with heap := h, toks := tk }) :
    wpAny (model PySem.Challenge.rw_pf0221_01.prog w) A (pyIter (.ref r)) (fun it s₂ => LoopAtV PySem.Challenge.rw_pf0221_01.prog w A h₀ env x body Q E it s₂) E s := by
  refine wpAny_pyIter_range hr hsmall ?_
  have hnew := next_is_new F
  refine loop_core names Z (LCg.range_walks hh a₀ n) ?_ ?_ (fun b hb => .inl (List.mem_singleton.mp hb)) (fun p hp => Nat.ne_of_lt (Heap.lt_size (N p hp).1)) (List.mem_singleton.mpr rfl) (fun b hb => List.mem_singleton.mp hb) (fun i h st => ⟨_, st⟩)
    (by show IsRangeIter _ _ _ _ _; rw [hn]; simpa using Heap.get?_push_size _ rfl) (F.push _) g v (fun p hp => ⟨Heap.get?_push_of_some _ (N p hp).1, (N p hp).2⟩) z0 turn done
  · intro hm
    exact absurd F.ns.lt ((List.mem_singleton.mp hm) ▸ Nat.lt_irrefl _)
  · intro b hb
    rw [List.mem_singleton.mp hb]
    exact hnew
theorem iter_listS {w : World} {A : Around} {E : Value → Shared → Prop} {s : Shared} {env : Env} {h₀ : Heap} {x : Str} {body : List Stmt} {Q : Flow → Shared → Prop} {c : Wa} {K T1 : List (Addr × Obj)} {m₀ : Str → Option Value} {ax : Addr} {lo : Obj} {ys : List Value} {nz : Nat}
    {k q : Int} {fr : Int → Int} {wd : Int → Int → Int} {dk : Addr} {ok ow : Obj} {vs : List Value} {oW : Obj} {M : Int → Int} {xs ws : Xs} (names : List Str) (Z : Nat → Int → Int → (Int → Int) → (Int → Int → Int) → Prop)
    (hh : A.handled = none) (hm : (ax, lo) ∈ T1) (hc : lo.cls = .type "list") (hd : lo.data = .seq ys.toArray nz)
    (F : Fr h₀ env.locals s.heap m₀) (g : Good w c T1) (v : Inv w c K T1 k q fr wd dk ok ow vs oW M xs ws) (N : News h₀ env.locals s.heap (LD c ow dk ok vs oW T1)) (z0 : Z 0 k q fr wd)
    (turn : ∀ i v m₁ h tk nk own k q fr wd, i < ys.length → ys[i]? = some v → KeepsN names m₀ m₁ → Z i k q fr wd → Newer nk T1 → Fr h₀ env.locals h (fun y => if y = x then some v else m₁ y) → St w c (nk ++ K) (own ++ (nk ++ T1)) k q fr wd h₀ env.locals h →
      wpAny (model PySem.Challenge.rw_pf0221_01.prog w) A (execs body env) (fun f s' => DcQ (TurnE w c K T1 own nk h₀ env.locals s names m₀ (Z (i + 1)) f s')) E { s with heap := h, toks := tk })
    (done : ∀ h tk m₁ nk k q fr wd, KeepsN names m₀ m₁ → Z ys.length k q fr wd → Newer nk T1 → St w c (nk ++ K) (nk ++ T1) k q fr wd h₀ env.locals h → Fr h₀ env.locals h m₁ → Q .next { s with heap := h, toks := tk }) :
    wpAny (model PySem.Challenge.rw_pf0221_01.prog w) A (pyIter (.ref ax)) (fun it s₂ => LoopAtV PySem.Challenge.rw_pf0221_01.prog w A h₀ env x body Q E it s₂) E s := by
  have hm' : (ax, lo) ∈ LD c ow dk ok vs oW T1 := by simp only [LD, List.mem_cons]; exact .inr (.inr (.inr (.inr (.inr hm))))
  have hax := N _ hm'
  have hl : s.heap.IsList ax ys.toArray := ⟨lo, hax.1, hc, nz, hd⟩
  have hlt : ax < s.heap.objs.size := Heap.lt_size hax.1
  have hne : ax ≠ s.heap.objs.size := Nat.ne_of_lt hlt
  refine wpAny_pyIter_list hl ?_
  have hnew := next_is_new F
  have W := Walks.list (prog := PySem.Challenge.rw_pf0221_01.prog) (w := w) hh s.heap.objs.size ax hne ys.toArray
  have hlen : ys.toArray.size = ys.length := by simp
  rw [hlen] at W
  refine loop_core names Z W ?_ ?_ (fun b hb => ?_) (fun p hp => Nat.ne_of_lt (Heap.lt_size (N p hp).1)) (List.mem_singleton.mpr rfl) (fun b hb => List.mem_singleton.mp hb) (fun i h st => by obtain ⟨o, e, _⟩ := st.1; exact ⟨o, e⟩)
    ⟨⟨_, Heap.get?_push_size _ rfl, rfl, rfl⟩, hl.at fun o e => Heap.get?_push_of_some _ e⟩ (F.push _) g v (fun p hp => ⟨Heap.get?_push_of_some _ (N p hp).1, (N p hp).2⟩) z0 (fun i v m₁ h tk nk own k q fr wd hi hP => turn i v m₁ h tk nk own k q fr wd hi (by simpa using hP)) done
  · intro hmm
    rcases List.mem_cons.mp hmm with e | hmm
    · exact absurd F.ns.lt (e ▸ Nat.lt_irrefl _)
    · exact hax.2.1 (List.mem_singleton.mp hmm).symm
  · intro b hb
    rw [List.mem_singleton.mp hb]
    exact hnew
  · rcases List.mem_cons.mp hb with rfl | hb
    · exact .inl rfl
    · exact .inr ⟨lo, (List.mem_singleton.mp hb) ▸ hm⟩
local macro_rules | `(tactic| walk_at "exec For Name Call cons nil") => `(tactic| (k_here; k_extra "for"))
local macro_rules | `(tactic| walk_at "exec For Name List cons nil") => `(tactic| (k_here; k_extra "for"))
local macro_rules | `(tactic| walk_at "exec For Name Name cons nil") => `(tactic| (k_here; k_extra "for"))
theorem dcq_stop {P : Prop} (h : DcQ P) : P := h
/-- at hand where a walk is to stop once -/
def StopT : Prop := True
theorem for_S {w : World} {A : Around} {E : Value → Shared → Prop} {s : Shared} {env : Env} {L : Addr} {m : Str → Option Value} {Q : Flow → Shared → Prop} {x : Str} {px pos : Pos} {iter : Expr} {body : List Stmt} {h₀ : Heap} (zzF0 : Fr h₀ L s.heap m) (hx : env.kindOf x = some .local)
    (hp : (env.scope.kind == .class || (env.scope.kind == .module && env.locals != env.globals)) = false)
    (h : wpAny (model PySem.Challenge.rw_pf0221_01.prog w) A (eval iter env) (fun xv s₁ => DcQ (wpAny (model PySem.Challenge.rw_pf0221_01.prog w) A (pyIter xv) (fun it s₂ => LoopAtV PySem.Challenge.rw_pf0221_01.prog w A h₀ env x body Q E it s₂) E s₁)) E s)
    (hs : ∀ x, foldedSetIterable iter env x = pure x := by intro _; rfl)
    (hE : PassesOwn (model PySem.Challenge.rw_pf0221_01.prog w) A env E := by passes_own) :
    wpAny (model PySem.Challenge.rw_pf0221_01.prog w) A (exec (.For (.Name x px) iter body [] pos) env) Q E s := For_invV h₀ hx hp h hs hE
theorem u_for : True := by (k_with "for" => ((rename Fr _ _ _ _ => lF'); with_unfolding_all refine' for_S lF' ?k1 ?k2 ?_; (case k1 => exact rfl); (case k2 => exact rfl); k_whole)); trivial
theorem u_newtup0 : True := by (k_with "newtup" => (k_dflt (refine' kup_newTuple ?zzF ?zzN ?_ ?zzz; (case zzF => k_asm); (case zzN => k_asm); (case zzz => rw [sizeLine_eq]; exact Nat.le_of_ble_eq_true rfl)); intro D' h' F' N' l1; (try k_lt l1))); trivial
theorem u_kvn : True := by (k_with "kv" => exact hkvn _); trivial
section
variable {w : World} {p : Program} {loose : List Str} {mean : ExcName → Option Value} {mg mb : Str → Option Value} {dp un : Nat} {gd : Option (List Code)} {cn : Str} {cs : Scope} {a : Addr} {ccd : Value} {cl : List (Str × Addr)} {outer : List Env} {A₀ : Around} {base h₀ : Heap} {L : Addr} {m : Str → Option Value} {s : Shared} {Q E : Value → Shared → Prop} {K T : List (Addr × Obj)} {c : Wa} {k q : Int} {fr : Int → Int} {wd : Int → Int → Int}
  (B : Below A₀ base outer h₀) (F : Fr h₀ L s.heap m) (X : (Mine.K w.params).In h₀) (T0 : Top p loose mean mg mb h₀) (hk : cs.kind = .function)
include B F X T0 hk
theorem c_deed (S : St w c K T 8 q fr wd h₀ L s.heap) (hd : dp + 12 < recursionLimit) (hu : un + 96 < cLine)
    {x : Int} {t : Tok} (x0 : 0 ≤ x) (x9 : x < 1000000000)
    (ret : ∀ nk fr' wd' h' tk', Newer nk T → St w c (nk ++ K) (nk ++ T) 8 q fr' wd' h₀ L h' → Fr h₀ L h' m → Q (.bool true) { s with heap := h', toks := tk' }) :
    wpAny (model PySem.Challenge.rw_pf0221_01.prog w) (ktrTop dp un gd cn cs L a ccd cl outer) (call (.ref 902) [.ref c.wo, .int x t]) Q E s := by
  obtain ⟨ow, dk, ok, vs, oW, M, xs, ws, g, v, N⟩ := S
  have N : News h₀ L s.heap ((c.dw, ow) :: (c.dqk, dictOf (quickE c.v c.wk c.lay dk) c.n) :: (dk, ok) :: (c.fl, listOf vs.toArray c.nf) :: (c.dW, oW) :: T) := N
  obtain ⟨b, hkvn⟩ : ∃ b, ∀ t, KV b (.int (x / 320 % 2) t) := by
    have : x / 320 % 2 = 0 ∨ x / 320 % 2 = 1 := by omega
    rcases this with e | e
    · exact ⟨false, fun t => .inr ⟨t, by rw [e]; rfl⟩⟩
    · exact ⟨true, fun t => .inr ⟨t, by rw [e]; rfl⟩⟩
  have p1 : 0 ≤ x / 5 % 8 := by omega
  have p2 : x / 5 % 8 < 8 := by omega
  have o1 : 0 ≤ x / 40 % 8 := by omega
  have o2 : x / 40 % 8 < 8 := by omega
  have p3 := v.u.f0 _ p1 p2
  have p4 := v.u.f8 _ p1 p2
  have p5 := v.u.f0 _ o1 o2
  have p6 := v.u.f8 _ o1 o2
  have hwo := g.Wo
  have hw9 := g.wo
  have hm := g.mem
  have hf := v.f
  have tw := v.tw
  have hr := v.r
  obtain ⟨gn1, gn2, gn3, gn4, gn5, gn6⟩ := g.nn
  obtain ⟨vm9, mm1, mm2, mm3, mm4⟩ := id hm
  unfold WoO at hw9
  have hst : StopT := trivial
  (k_with "tok" => ((with_reducible show wpAny _ _ (execs [Stmt.If _ _ _ _, _] _) _ _ _); (rename StopT => zzS); clear zzS; refine dcq_stop ?_))
  k_extra "enter"
  k_steps
  unfold DcQ
  have hway : x % 5 = 0 ∨ x % 5 = 1 ∨ x % 5 = 2 ∨ x % 5 = 3 ∨ x % 5 = 4 := by omega
  rcases hway with hway | hway | hway | hway | hway
  · k_steps
    exact ret nk9 _ _ _ _ nw9 (St.mk g9 v9 (by k_asm) (by k_extra "stsub")) (by k_asm)
  · k_steps
    exact ret [] _ _ _ _ Newer.nil (St.mk g9 v9 (by k_asm) (by k_extra "stsub")) (by k_asm)
  · k_steps
    exact ret [] _ _ _ _ Newer.nil (St.mk g9 v9 (by k_asm) (by k_extra "stsub")) (by k_asm)
  · k_steps
    rename_i rR rF rN rE
    unfold DcQ
    refine iter_rangeS (n := 4) (K := K) (T1 := T) [Str.ofString "slot", Str.ofString "value"] (fun _ k' q' fr' _ => k' = 8 ∧ q' = q ∧ fr' = fr) (by rfl) rR (by decide) (by rfl) rF g v (news_perm rN (by k_extra "stsub")) ⟨rfl, rfl, rfl⟩ ?turn ?done
    case turn =>
      clear rR rF rN rE
      intro i v9 m₁ h tk nk own k' q' fr' wd' i4 hP hm hz nw F' S9
      obtain ⟨t8, rfl⟩ := hP
      obtain ⟨rfl, rfl, rfl⟩ := hz
      obtain ⟨u1, u2, rfl⟩ := hm.two
      obtain ⟨ow9, dk9, ok9, vs9, oW9, M9, xs9, ws9, g9, v9, N9⟩ := S9
      dsimp only [LD] at N9
      have hwo9 := List.mem_append_right own (List.mem_append_right nk hwo)
      have mi9 := g9.mem
      obtain ⟨vm9, mm19, mm29, mm39, mm49⟩ := id mi9
      have j0 : 0 ≤ 0 + (i : Int) := by omega
      have j1 : 0 + (i : Int) < 4 := by omega
      k_steps
      refine' ⟨.inl rfl, _, _, _, _, _, _, _, _, rfl, ?keeps, ?z, Newer.trans (by assumption) (by assumption), ?S, ?F⟩
      case F => k_asm
      case S => simp only [List.append_assoc]; exact St.mk (by assumption) (by assumption) (by k_asm) (by k_extra "stsub")
      case z => exact ⟨rfl, rfl, rfl⟩
      case keeps =>
        intro z hz
        simp only [List.mem_cons, List.not_mem_nil, or_false, not_or] at hz
        simp only [hz.1, hz.2, if_false]
    case done =>
      clear rR rF rN rE
      intro h tk m₁ nk k' q' fr' wd' hm hz nw S9 F'
      obtain ⟨rfl, rfl, rfl⟩ := hz
      obtain ⟨u1, u2, rfl⟩ := hm.two
      obtain ⟨ow9, dk9, ok9, vs9, oW9, M9, xs9, ws9, g9, v9, N9⟩ := S9
      dsimp only [LD] at N9
      k_steps
      exact ret nk _ _ _ _ nw (St.mk g9 v9 (by k_asm) (by k_extra "stsub")) (by k_asm)
  · k_steps
    exact ret [] _ _ _ _ Newer.nil (St.mk g v (by k_asm) (by k_extra "stsub")) (by k_asm)
theorem u_deed : True := by (k_with "ctr" => ((with_reducible show wpAny _ _ (call (Value.ref 902) _) _ _ _); k_dflt (refine c_deed (by k_asm) (by k_asm) (by k_asm) (by k_asm) (by k_extra "base") (by k_extra "st") (by ktr_room) (by ktr_units) (by omega) (by omega) ?_); intro nk9 fr9 wd9 h' tk' nw9 S9 F'; obtain ⟨ow9, dk9, ok9, vs9, oW9, M9, xs9, ws9, g9, v9, N9⟩ := S9; have mi9 := g9.mem; have hwo9 := g9.Wo; obtain ⟨vm9, mm19, mm29, mm39, mm49⟩ := id mi9; obtain ⟨ss19, ss29, ss39, ss49⟩ := g9.ss; obtain ⟨vn19, vn29, vn39, vn49, vs59⟩ := v9.nn; have di9 := v9.i; have hf9 := v9.f; have tw9 := v9.tw; have rw9 := v9.r; have lo9 := g9.lo; dsimp only [LD] at N9; try dsimp only)); trivial
end
-- list comprehensions over a range with a step
section
variable {prog : Program} {w : World} {A : Around} {E : Value → Shared → Prop} {s : Shared} {h₀ : Heap} {L : Addr} {m : Str → Option Value} {env : Env}
def SrcD (prog : Program) (w : World) (A : Around) (h₀ : Heap) (L : Addr) (m : Str → Option Value) (env : Env) (elt : Expr) (x : Str) (scope : Scope) (cl : List (Str × Addr)) (Fin : Shared → List Value → List (Addr × Obj) → Prop) (xv : Value) (s₁ : Shared) : Prop :=
  ∃ r a b d t u v n news, xv = .ref r ∧ A.handled = none ∧ Fr h₀ L s₁.heap m ∧ News h₀ L s₁.heap news ∧ IsRange s₁.heap r a b d t u v ∧ Builtin.Range.small a b d = true ∧ Builtin.Range.rangeSize a b d = ((n : Nat) : Int) ∧ n ≤ sizeLine ∧
    ∀ s₂ : Shared, (∃ h, s₂ = { s₁ with heap := h }) → LCg.CompRest prog w A h₀ L m env elt x scope cl s₂ (fun _ => True) (fun i v => ∃ t, v = .int (a + (i : Int) * d) t) (Fin s₂) n 0 [] news
theorem iterD_keep {I : Addr} {a d : Int} {n : Nat} : ∀ i (h h' : Heap) (o : Obj) (nw : List (Addr × Obj)), IsRangeIter h I (a + (i : Nat) * d) ((n : Int) - (i : Nat)) d → h.get? I = some o → h'.get? I = some o → (∀ b o, h₀.get? b = some o → h'.get? b = some o) → News h₀ L h' nw → True → IsRangeIter h' I (a + (i : Nat) * d) ((n : Int) - (i : Nat)) d := by
  intro i h h' o nw st e e' _ _ _
  have q : h.get? I = some _ := st
  rw [e] at q
  show h'.get? I = some _
  rw [e', q]
theorem news_off {h h' : Heap} {C : Addr} {l : List (Addr × Obj)} (N : News h₀ L h l) (hs : Heap.SameBut C h h') (off : ∀ p ∈ l, p.1 ≠ C) : News h₀ L h' l := fun p hp => ⟨hs.extBut _ _ (off p hp) (N p hp).1, (N p hp).2⟩
theorem lcd_eval {elt iter : Expr} {x : Str} {px : Pos} {scope : Scope} {cl : List (Str × Addr)} {pos : Pos} {Q : Value → Shared → Prop} (zzF0 : Fr h₀ L s.heap m)
    (hclos : closureFor scope env = pure cl) (hcell : ∀ y ∈ scope.names, y.2 ≠ .cell) (hkind : scope.kind = .function)
    (hnames : ∀ y ∈ scope.names, y.2 = .local → scope.names.lookup y.1 = some .local) (hx : scope.names.lookup x = some .local)
    (h : wpAny (model prog w) A (eval iter env) (fun xv s₁ => DcQ (SrcD prog w A h₀ L m env elt x scope cl (fun s₂ => LCg.FinE h₀ L m s₂ Q) xv s₁)) E s)
    (hs : ∀ x, foldedSetIterable iter env x = pure x := by intro _; rfl) :
    wpAny (model prog w) A (eval (.ListComp elt [⟨.Name x px, iter, [], 0⟩] scope pos) env) Q E s := by
  rw [eval_ListComp]
  refine wpAny_comprehension_free (use := none) rfl hs hclos hkind hnames (wpAny_mono h (fun xv s₁ hd => ?_) fun _ _ e => e)
  obtain ⟨r, a, b, d, t, u, v, n, news, rfl, hh, F, N, hr, hsm, hn, hsz, R⟩ := hd
  refine wpAny_pyIter_range hr hsm ?_
  refine LCg.block_U (Walks.range hh _ a d n) hsz (fun i h st => ⟨_, st⟩) iterD_keep hcell hkind hx (by show IsRangeIter _ _ _ _ _; rw [hn]; simpa using Heap.get?_push_size _ rfl) (fun b hb => ?_)
    (F.push _) (fun p hp => ⟨Heap.get?_push_of_some _ (N p hp).1, (N p hp).2⟩) (Nat.ne_of_lt F.ns.lt) (next_is_new F) (fun p hp => Nat.ne_of_lt (Heap.lt_size (N p hp).1)) trivial (R _ ⟨_, rfl⟩) ?_
  · rw [List.mem_singleton.mp hb]
    show s₁.heap.objs.size < (s₁.heap.push _).objs.size
    rw [Heap.size_push]; exact Nat.lt_succ_self _
  · intro D C h' tk m' ys news' F' N' o1 hns hC₀ hD₀ hCL hDL hCD offC fin
    refine ⟨m', hns, fun h2 hs2 => fin D h2 tk (F'.change hs2 hCL hC₀) (news_off N' hs2 fun p hp => ?_) o1⟩
    rcases List.mem_cons.mp hp with rfl | hp
    · exact Ne.symm hCD
    · exact offC p hp
theorem lcd_assign {elt iter : Expr} {x y : Str} {px py : Pos} {scope : Scope} {cl : List (Str × Addr)} {pos spos : Pos} {Q : Flow → Shared → Prop} (zzF0 : Fr h₀ L s.heap m) (hLe : env.locals = L)
    (hsw : swapsWith (.ListComp elt [⟨.Name x px, iter, [], 0⟩] scope pos) (some (.Name y py)) spos.line env = pure true)
    (hclos : closureFor scope env = pure cl) (hcell : ∀ z ∈ scope.names, z.2 ≠ .cell) (hkind : scope.kind = .function)
    (hnames : ∀ z ∈ scope.names, z.2 = .local → scope.names.lookup z.1 = some .local) (hx : scope.names.lookup x = some .local)
    (hy : env.kindOf y = some .local) (hp : (env.scope.kind == .class || (env.scope.kind == .module && env.locals != env.globals)) = false)
    (h : wpAny (model prog w) A (eval iter env) (fun xv s₁ => DcQ (SrcD prog w A h₀ L m env elt x scope cl (fun s₂ => LCg.FinA h₀ L m s₂ y Q) xv s₁)) E s)
    (hs : ∀ x, foldedSetIterable iter env x = pure x := by intro _; rfl) :
    wpAny (model prog w) A (exec (.Assign [.Name y py] (.ListComp elt [⟨.Name x px, iter, [], 0⟩] scope pos) spos) env) Q E s := by
  subst hLe
  rw [exec_Assign_Name_used _ _ _ _ hsw]
  refine wpAny_bind (wpAny_standAt (wpAny_bind ?_))
  show wpAny _ A (do let _ ← comprehension (.ListComp elt [⟨.Name x px, iter, [], 0⟩] scope pos) scope env _ (newList []) false (eval iter env) (some (assign (.Name y py) env))) _ _ s
  refine wpAny_bind (wpAny_mono (wpAny_comprehension_free (use := some (assign (.Name y py) env)) (Q := fun _ s' => Q .next s') rfl hs hclos hkind hnames
    (wpAny_mono h (fun xv s₁ hd => ?_) fun _ _ e => e)) (fun _ s' hq => wpAny_pure (wpAny_pure hq)) fun _ _ e => e)
  obtain ⟨r, a, b, d, t, u, v, n, news, rfl, hh, F, N, hr, hsm, hn, hsz, R⟩ := hd
  refine wpAny_pyIter_range hr hsm ?_
  refine LCg.block_U (Walks.range hh _ a d n) hsz (fun i h st => ⟨_, st⟩) iterD_keep hcell hkind hx (by show IsRangeIter _ _ _ _ _; rw [hn]; simpa using Heap.get?_push_size _ rfl) (fun b hb => ?_)
    (F.push _) (fun p hp => ⟨Heap.get?_push_of_some _ (N p hp).1, (N p hp).2⟩) (Nat.ne_of_lt F.ns.lt) (next_is_new F) (fun p hp => Nat.ne_of_lt (Heap.lt_size (N p hp).1)) trivial (R _ ⟨_, rfl⟩) ?_
  · rw [List.mem_singleton.mp hb]
    show s₁.heap.objs.size < (s₁.heap.push _).objs.size
    rw [Heap.size_push]; exact Nat.lt_succ_self _
  · intro D C h' tk m' ys news' F' N' o1 hns hC₀ hD₀ hCL hDL hCD offC fin
    show wpAny _ A (assign (.Name y py) env (.ref D)) _ _ _
    refine wpAny_assign_Name (wpAny_storeName_local hy F'.ns (fun h₂ hn₂ hs₂ => ?_) hp)
    have hL₀ : h₀.get? env.locals = none := Heap.get?_none_of_le F'.above
    have F₂ : Fr h₀ env.locals h₂ (fun z => if z = y then some (.ref D) else m z) := F'.set hn₂ hs₂
    have N₂ : News h₀ env.locals h₂ ((D, LCg.lst ys) :: news') := news_off N' hs₂ fun p hp => (N' p hp).2.1
    refine ⟨m', hns.sameBut hs₂ hCL, fun h2 hs2 => fin D h2 _ (F₂.change hs2 hCL hC₀) (news_off N₂ hs2 fun p hp => ?_) o1⟩
    rcases List.mem_cons.mp hp with rfl | hp
    · exact Ne.symm hCD
    · exact offC p hp
end
/-- what a turn's end says, Y being the objects that a turn may change -/
def TurnY (w : World) (c : Wa) (K T1 own Y : List (Addr × Obj)) (nk : List (Addr × Obj)) (h₀ : Heap) (L : Addr) (s₁ : Shared) (names : List Str) (m₀ : Str → Option Value) (Z : List (Addr × Obj) → Int → Int → (Int → Int) → (Int → Int → Int) → Prop) (f : Flow) (s' : Shared) : Prop :=
  (f = .next ∨ f = .cont) ∧ ∃ nk2 Y' m' h' tk' k' q' fr' wd', s' = { s₁ with heap := h', toks := tk' } ∧ KeepsN names m₀ m' ∧ Z Y' k' q' fr' wd' ∧ Y'.map (·.1) = Y.map (·.1) ∧ Newer nk2 (own ++ (nk ++ (Y ++ T1))) ∧ St w c (nk2 ++ (nk ++ K)) (nk2 ++ (own ++ (nk ++ (Y' ++ T1)))) k' q' fr' wd' h₀ L h' ∧ Fr h₀ L h' m'
theorem newer_map {nk Y Y' T1 : List (Addr × Obj)} (h : Newer nk (Y ++ T1)) (e : Y'.map (·.1) = Y.map (·.1)) : Newer nk (Y' ++ T1) := fun p hp q hq => by
  rcases List.mem_append.mp hq with hq | hq
  · have : q.1 ∈ Y.map (·.1) := e ▸ List.mem_map.mpr ⟨q, hq, rfl⟩
    obtain ⟨q', hq', e'⟩ := List.mem_map.mp this
    rw [← e']
    exact h p hp q' (List.mem_append_left _ hq')
  · exact h p hp q (List.mem_append_right _ hq)
theorem iter_rangeY {w : World} {A : Around} {E : Value → Shared → Prop} {s : Shared} {env : Env} {h₀ : Heap} {x : Str} {body : List Stmt} {Q : Flow → Shared → Prop} {c : Wa} {K T1 Y₀ : List (Addr × Obj)} {m₀ : Str → Option Value} {r : Addr} {a₀ b₀ : Int} {t₀ u₀ v₀ : Tok} {n : Nat}
    {k q : Int} {fr : Int → Int} {wd : Int → Int → Int} {dk : Addr} {ok ow : Obj} {vs : List Value} {oW : Obj} {M : Int → Int} {xs ws : Xs} (names : List Str) (Z : Nat → List (Addr × Obj) → Int → Int → (Int → Int) → (Int → Int → Int) → Prop)
    (hh : A.handled = none) (hr : IsRange s.heap r a₀ b₀ 1 t₀ u₀ v₀) (hsmall : Builtin.Range.small a₀ b₀ 1 = true) (hn : Builtin.Range.rangeSize a₀ b₀ 1 = (n : Int))
    (F : Fr h₀ env.locals s.heap m₀) (g : Good w c T1) (hK : ∀ p ∈ K, p ∈ T1) (g' : Good w c (Y₀ ++ T1)) (v : Inv w c K (Y₀ ++ T1) k q fr wd dk ok ow vs oW M xs ws) (N : News h₀ env.locals s.heap (LD c ow dk ok vs oW (Y₀ ++ T1))) (z0 : Z 0 Y₀ k q fr wd)
    (turn : ∀ i v m₁ h tk nk own Y k q fr wd, i < n → (∃ t, v = .int (a₀ + (i : Int)) t) → KeepsN names m₀ m₁ → Z i Y k q fr wd → Y.map (·.1) = Y₀.map (·.1) → Newer nk (Y ++ T1) → (∀ p ∈ own, ∀ q ∈ Y, p.1 ≠ q.1) → Fr h₀ env.locals h (fun y => if y = x then some v else m₁ y) → St w c (nk ++ K) (own ++ (nk ++ (Y ++ T1))) k q fr wd h₀ env.locals h →
      wpAny (model PySem.Challenge.rw_pf0221_01.prog w) A (execs body env) (fun f s' => DcQ (TurnY w c K T1 own Y nk h₀ env.locals s names m₀ (Z (i + 1)) f s')) E { s with heap := h, toks := tk })
    (done : ∀ h tk m₁ nk Y k q fr wd, KeepsN names m₀ m₁ → Z n Y k q fr wd → Y.map (·.1) = Y₀.map (·.1) → Newer nk (Y ++ T1) → St w c (nk ++ K) (nk ++ (Y ++ T1)) k q fr wd h₀ env.locals h → Fr h₀ env.locals h m₁ → Q .next { s with heap := h, toks := tk }) :
    wpAny (model PySem.Challenge.rw_pf0221_01.prog w) A (pyIter (.ref r)) (fun it s₂ => LoopAtV PySem.Challenge.rw_pf0221_01.prog w A h₀ env x body Q E it s₂) E s := by
  refine wpAny_pyIter_range hr hsmall ?_
  have hnew := next_is_new F
  obtain ⟨I, hIe⟩ : ∃ I, I = s.heap.objs.size := ⟨_, rfl⟩
  let J : Nat → (Str → Option Value) → List (Addr × Obj) → Prop := fun i m₁ news₁ => ∃ nk Y k q fr wd ow dk ok vs oW M xs ws, news₁ = LD c ow dk ok vs oW (nk ++ (Y ++ T1)) ∧ KeepsN names m₀ m₁ ∧ Z i Y k q fr wd ∧ Y.map (·.1) = Y₀.map (·.1) ∧ Newer nk (Y ++ T1) ∧ Good w c (nk ++ (Y ++ T1)) ∧ Inv w c (nk ++ K) (nk ++ (Y ++ T1)) k q fr wd dk ok ow vs oW M xs ws
  rw [← hIe] at hnew ⊢
  refine ⟨I, [I], [I], n, _, _, m₀, LD c ow dk ok vs oW (Y₀ ++ T1), J, rfl, LCg.range_walks hh a₀ n, ?_, ?_, ?_, (by show IsRangeIter _ _ _ _ _; rw [hn, hIe]; simpa using Heap.get?_push_size _ rfl), F.push _, (fun p hp => ⟨Heap.get?_push_of_some _ (N p hp).1, (N p hp).2⟩), ⟨[], Y₀, k, q, fr, wd, ow, dk, ok, vs, oW, M, xs, ws, rfl, .refl, z0, rfl, Newer.nil, g', v⟩, ?_, ?_⟩
  · intro hm
    rw [hIe] at hm
    exact absurd F.ns.lt ((List.mem_singleton.mp hm) ▸ Nat.lt_irrefl _)
  · intro b hb
    rw [List.mem_singleton.mp hb]
    exact hnew
  · intro p hp hb
    have h1 := Heap.lt_size (N p hp).1
    rw [List.mem_singleton.mp hb, hIe] at h1
    exact absurd h1 (Nat.lt_irrefl _)
  · rintro i val m₁ news₁ s₁ own ⟨h, tk, rfl⟩ hin hP ⟨nk, Y, k, q, fr, wd, ow, dk, ok, vs, oW, M, xs, ws, rfl, hm, hz, hY, hn', hg, hv⟩ hoff hown hget hall hst₁ F₁ N₁
    have oI : ∀ p ∈ LD c ow dk ok vs oW (nk ++ (Y ++ T1)), p.1 ≠ I := fun p hp e => hoff p hp (List.mem_singleton.mpr e)
    have a1 := oI (c.dw, ow) (by simp)
    have a2 := oI (c.dqk, dictOf (quickE c.v c.wk c.lay dk) c.n) (by simp)
    have a3 := oI (dk, ok) (by simp)
    have a4 := oI (c.fl, listOf vs.toArray c.nf) (by simp)
    have a5 := oI (c.dW, oW) (by simp)
    have oT : ∀ p ∈ nk ++ (Y ++ T1), p.1 ≠ I := fun p hp => oI p (by simp only [LD, List.mem_cons]; exact .inr (.inr (.inr (.inr (.inr hp)))))
    have sp : ∀ p ∈ own ++ (nk ++ (Y ++ T1)), p ∈ nk ++ (Y ++ T1) ∨ SepX c dk p := fun p hp => by
      rcases List.mem_append.mp hp with hp | hp
      · refine .inr ?_
        unfold SepX
        rw [List.mem_singleton.mp (hown p hp)]
        exact ⟨Ne.symm a1, Ne.symm a2, Ne.symm a4, Ne.symm a5, Ne.symm a3⟩
      · exact .inl hp
    have up : ∀ p ∈ nk ++ (Y ++ T1), p ∈ own ++ (nk ++ (Y ++ T1)) := fun p hp => List.mem_append_right _ hp
    have S : St w c (nk ++ K) (own ++ (nk ++ (Y ++ T1))) k q fr wd h₀ env.locals h := St.mk (hg.to up sp) (hv.to (fun p hp => up p (hv.b p hp)) sp) N₁ (fun p hp => by
      simp only [LD, List.mem_cons, List.mem_append] at hp ⊢
      grind)
    have hitO : h.get? I = some _ := hst₁
    have mI := hall I (List.mem_singleton.mpr rfl) hnew _ hitO
    refine wpAny_mono (turn i val m₁ h tk nk own Y k q fr wd hin hP hm hz hY hn' (fun p hp q hq e => oT q (List.mem_append_right _ (List.mem_append_left _ hq)) (e ▸ List.mem_singleton.mp (hown p hp))) F₁ S) (fun f s₃ hd => ?_) fun _ _ e => e
    unfold DcQ at hd
    obtain ⟨hf, nk2, Y', m', h', tk', k', q', fr', wd', rfl, hm', hz', hY', nw2, ⟨ow', dk', ok', vs', oW', M', xs', ws', g', v', N'⟩, F'⟩ := hd
    have mI' := List.mem_append_right nk2 (List.mem_append_left (nk ++ (Y' ++ T1)) mI)
    have sub2 : ∀ p ∈ (nk2 ++ nk) ++ (Y' ++ T1), p ∈ nk2 ++ (own ++ (nk ++ (Y' ++ T1))) := fun p hp => by
      rw [List.append_assoc] at hp
      rcases List.mem_append.mp hp with hp | hp
      · exact List.mem_append_left _ hp
      · exact List.mem_append_right _ (List.mem_append_right _ hp)
    have g2 : Good w c ((nk2 ++ nk) ++ (Y' ++ T1)) := g.to (dk := dk') (fun p hp => List.mem_append_right _ (List.mem_append_right _ hp)) fun p hp => .inr ⟨g'.s1 p (sub2 p hp), g'.s2 p (sub2 p hp), g'.s3 p (sub2 p hp), g'.s4 p (sub2 p hp), v'.s p (sub2 p hp)⟩
    rw [← List.append_assoc] at v'
    have v2 : Inv w c ((nk2 ++ nk) ++ K) ((nk2 ++ nk) ++ (Y' ++ T1)) k' q' fr' wd' dk' ok' ow' vs' oW' M' xs' ws' := v'.to (fun p hp => by
      rcases List.mem_append.mp hp with hp | hp
      · exact List.mem_append_left _ hp
      · exact List.mem_append_right _ (List.mem_append_right _ (hK p hp))) fun p hp => .inl (sub2 p hp)
    have hYI : ∀ p ∈ Y', p.1 ≠ I := fun p hp => by
      have : p.1 ∈ Y.map (·.1) := hY' ▸ List.mem_map.mpr ⟨p, hp, rfl⟩
      obtain ⟨q, hq, e⟩ := List.mem_map.mp this
      rw [← e]
      exact oT q (List.mem_append_right _ (List.mem_append_left _ hq))
    have nwa : Newer nk2 (nk ++ (Y ++ T1)) := Newer.sub nw2 up
    have nwb : Newer (nk2 ++ nk) (Y' ++ T1) := newer_map (Newer.trans hn' nwa) hY'
    have fin : LoopStepU h₀ env.locals [I] own (J (i + 1)) { s with heap := h, toks := tk } .next { s with heap := h', toks := tk' } := by
      refine ⟨rfl, h', tk', m', LD c ow' dk' ok' vs' oW' ((nk2 ++ nk) ++ (Y' ++ T1)), rfl, F', news_perm N' ?_, ?_, nk2 ++ nk, Y', k', q', fr', wd', ow', dk', ok', vs', oW', M', xs', ws', rfl, hm', hz', hY'.trans hY, nwb, g2, v2⟩
      · intro p hp
        rcases List.mem_append.mp hp with hp | hp
        · simp only [LD, List.mem_cons]
          exact .inr (.inr (.inr (.inr (.inr (List.mem_append_right _ (List.mem_append_left _ hp))))))
        · simp only [LD, List.mem_cons] at hp ⊢
          rcases hp with hp | hp | hp | hp | hp | hp
          · exact .inl hp
          · exact .inr (.inl hp)
          · exact .inr (.inr (.inl hp))
          · exact .inr (.inr (.inr (.inl hp)))
          · exact .inr (.inr (.inr (.inr (.inl hp))))
          · exact .inr (.inr (.inr (.inr (.inr (sub2 p hp)))))
      · intro p hp hb
        have e := List.mem_singleton.mp hb
        revert e
        simp only [LD, List.mem_cons] at hp
        rcases hp with rfl | rfl | rfl | rfl | rfl | hp
        · exact (g'.s1 _ mI').symm
        · exact (g'.s2 _ mI').symm
        · exact (v'.s _ mI').symm
        · exact (g'.s3 _ mI').symm
        · exact (g'.s4 _ mI').symm
        · rw [List.append_assoc] at hp
          rcases List.mem_append.mp hp with hp | hp
          · exact Nat.ne_of_gt (nw2 p hp _ (List.mem_append_left _ mI))
          · rcases List.mem_append.mp hp with hp | hp
            · exact oT p (List.mem_append_left _ hp)
            · rcases List.mem_append.mp hp with hp | hp
              · exact hYI p hp
              · exact oT p (List.mem_append_right _ (List.mem_append_right _ hp))
    rcases hf with rfl | rfl
    · exact .next fin
    · exact .cont fin
  · rintro h' tk m' news' F' N' _ ⟨nk, Y, k, q, fr, wd, ow, dk, ok, vs, oW, M, xs, ws, rfl, hm, hz, hY, hn', hg, hv⟩
    exact done h' tk m' nk Y k q fr wd hm hz hY hn' ⟨ow, dk, ok, vs, oW, M, xs, ws, hg, hv, N'⟩ F'
theorem Num.map {k q : Int} {M M' fr : Int → Int} {wd : Int → Int → Int} (h : Num k q M fr wd) (k0 : 0 ≤ k) (k8 : k < 8) (mx : ∀ x, x ≠ 244 + k → x ≠ 240 + k / 4 → M' x = M x) (me : IsE (M' (244 + k)) (fr k)) (mr : M' (240 + k / 4) = 1024 * (61 + k / 4) + 1) : Num (k + 1) q M' fr wd := by
  refine ⟨h.f0, h.f8, fun f s a b c d => ?_, fun a => ?_, fun a => ?_, fun p a b => ?_, ?_, fun p a b c => ?_, fun a => ?_, fun a => ?_⟩
  · rw [mx _ (by omega) (by omega)]; exact h.wd f s a b c d
  · by_cases e : k / 4 = 0
    · rw [e] at mr; exact mr
    · rw [mx _ (by omega) (by omega)]; exact h.r0 (by omega)
  · by_cases e : k / 4 = 1
    · rw [e] at mr; exact mr
    · omega
  · by_cases e : p = k
    · subst e; exact me
    · rw [mx _ (by omega) (by omega)]; exact h.en p a (by omega)
  · rw [mx _ (by omega) (by omega)]; exact h.q
  · rw [mx _ (by omega) (by omega)]; exact h.z p a (by omega) c
  · omega
  · rw [mx _ (by omega) (by omega)]; exact h.y1 (by omega)
theorem Num.poke {k q x : Int} {M fr : Int → Int} {wd : Int → Int → Int} (h : Num k q M fr wd) : Num k x (put M 50 x) fr wd := by
  have mx : ∀ y, y ≠ 50 → put M 50 x y = M y := fun y hy => if_neg hy
  refine ⟨h.f0, h.f8, fun f s a b c d => ?_, fun a => ?_, fun a => ?_, fun p a b => ?_, if_pos rfl, fun p a b c => ?_, fun a => ?_, fun a => ?_⟩
  · rw [mx _ (by omega)]; exact h.wd f s a b c d
  · rw [mx _ (by omega)]; exact h.r0 a
  · rw [mx _ (by omega)]; exact h.r1 a
  · rw [mx _ (by omega)]; exact h.en p a b
  · rw [mx _ (by omega)]; exact h.z p a b c
  · rw [mx _ (by omega)]; exact h.y0 a
  · rw [mx _ (by omega)]; exact h.y1 a
theorem Num.zero (q : Int) : Num 0 0 (fun _ => 0) (fun p => p) (fun _ _ => 0) := ⟨fun p a _ => a, fun p _ b => b, fun _ _ _ _ _ _ => rfl, fun a => by omega, fun a => by omega, fun p a b => by omega, rfl, fun _ _ _ _ => rfl, fun _ => rfl, fun _ => rfl⟩
local macro_rules | `(tactic| walk_at "WhlIf") => `(tactic| (k_extra "whl"))
theorem and3z {prog : Program} {w : World} {A : Around} {E : Value → Shared → Prop} {s : Shared} {Q : Value → Shared → Prop} {a : Int} {t u : Tok} (h4 : a % 4 = 0) (h : Q (.int 0 s.toks) { s with toks := s.toks + 1 }) : wpAny (model prog w) A (binaryOp .BitAnd (.int a t) (.int 3 u)) Q E s := and_int (by rw [bitAnd_m2, h4]; exact h)
theorem u_whl : True := by (k_with "whl" => first | (refine WhlIf.yes (decide_eq_true (by omega)) ?_) | (refine WhlIf.no (decide_eq_false (by omega)) ?_)); trivial
theorem u_and3z : True := by (k_with "band" => (with_reducible refine and3z ?_ ?_; omega)); trivial
local macro_rules | `(tactic| walk_at "call builtin:min") => `(tactic| (k_here; k_extra "min"))
local macro_rules | `(tactic| walk_at "subscriptTail") => `(tactic| (k_here; k_extra "bcut"))
theorem min_le {prog : Program} {w : World} {A : Around} {E : Value → Shared → Prop} {s : Shared} {h₀ : Heap} {L : Addr} {m : Str → Option Value} {news : List (Addr × Obj)} {a b r : Int} {t u : Tok} {Q : Value → Shared → Prop} (hh : A.handled = none) (F : Fr h₀ L s.heap m) (N : News h₀ L s.heap news) (hb : ¬ b < a) (hr : a = r)
    (h : ∀ h' tk, Fr h₀ L h' m → News h₀ L h' news → Q (.int r t) { s with heap := h', toks := tk }) : wpAny (model prog w) A (call (.builtin "min") [.int a t, .int b u]) Q E s :=
  min_two_N hh F N fun h' tk F' N' => by
    rw [if_neg hb, if_neg hb, hr]
    exact h h' tk F' N'
theorem u_min : True := by (k_with "min" => ((with_reducible show wpAny _ _ (call _ [Value.int _ _, Value.int _ _]) _ _ _); k_dflt (refine min_le (r := 4) (by rfl) (by k_asm) (by k_asm) (by first | omega | decide) (by first | omega | decide) ?_); intro h' tk' F' N'; try dsimp only)); trivial
section
open Builtin
theorem meets_rev4 (t : Tok) (a : Addr) {u : Tok} : Meets («bytes.__getitem__» ⟨[.bytes #[5, 5, 5, 5] t, .ref a], []⟩) (fun _ R s => s.heap.IsSliceOf a .none .none (.int (-1) u) ∧ R (.ok (.ret (.bytes #[5, 5, 5, 5] s.toks))) { s with toks := s.toks + 1 }) := by
  refine .of_wp fun prog w A R s hS => ?_
  obtain ⟨⟨o, ho, hc, hd⟩, h⟩ := hS
  have hT : s.TypeIs (.ref a) "slice" := ⟨o, ho, hc⟩
  show wpAny _ _ (Bytes.payload (.bytes #[5, 5, 5, 5] t) >>= fun r => _) _ _ s
  refine wpAny_bind (wpAny_of_eq (a := #[5, 5, 5, 5]) rfl ?_)
  show wpAny _ _ (Bytes.subscript? (.ref a) >>= fun r => _) _ _ s
  refine wpAny_bind ?_
  unfold Bytes.subscript?
  refine wpAny_bind (wpAny_specialOf hT slice_no_index (wpAny_pure ?_))
  refine wpAny_bind (wpAny_typeOf hT ?_)
  show wpAny _ _ (Bytes.sliceParts (.ref a) >>= fun r => _) _ _ s
  refine wpAny_bind ?_
  unfold Bytes.sliceParts
  refine wpAny_bind (wpAny_field (x := .int (-1) u) ho hd rfl ?_)
  kby_int
  refine wpAny_ite (KBy.ite_no (show ¬ ((rawInt (-1) == rawInt 0) = true) by decide) ?_)
  refine wpAny_bind (wpAny_field (x := .none) ho hd rfl ?_)
  kby_none
  refine wpAny_bind (wpAny_field (x := .none) ho hd rfl ?_)
  kby_none
  refine wpAny_pure ?_
  have go : wpAny (model prog w) A.in1 (sliceIndices (rawPart none) (rawPart none) (rawPart (some (-1))) 4) (fun r s' => r = sliceBounds none none (some (-1)) 4 ∧ s' = s) (fun _ _ => False) s :=
    wpAny_of_eq (sliceIndices_raw none none (some (-1)) 4 (by decide)) ⟨rfl, rfl⟩
  refine wpAny_bind (wpAny_mono go (fun r s' hr => ?_) fun _ _ e => e.elim)
  obtain ⟨hr1, hr2⟩ := hr
  subst hr1 hr2
  refine wpAny_ite (KBy.ite_no (by decide +kernel) ?_)
  have e : Bytes.sliced #[5, 5, 5, 5] (sliceBounds none none (some (-1)) 4).1 (sliceBounds none none (some (-1)) 4).2.1 (sliceBounds none none (some (-1)) 4).2.2 = #[5, 5, 5, 5] := by decide +kernel
  refine wpAny_bind (wpAny_mkBytes (wpAny_pure ⟨_, rfl, ?_⟩) ?_)
  · show R (Except.ok (Flow.ret (Value.bytes (Bytes.sliced #[5, 5, 5, 5] (sliceBounds none none (some (-1)) 4).1 (sliceBounds none none (some (-1)) 4).2.1 (sliceBounds none none (some (-1)) 4).2.2) _))) _
    rw [e]; exact h
  · show (Bytes.sliced #[5, 5, 5, 5] (sliceBounds none none (some (-1)) 4).1 (sliceBounds none none (some (-1)) 4).2.1 (sliceBounds none none (some (-1)) 4).2.2).size ≤ _
    rw [e]; decide +kernel
end
theorem rev4_N {prog : Program} {w : World} {A : Around} {E : Value → Shared → Prop} {s : Shared} {value slice : PySem.Expr} {t u : Tok} {h₀ : Heap} {L : Addr} {m : PySem.Str → Option Value} {news : List (Addr × Obj)} {Q : Value → Shared → Prop} (hF : Fr h₀ L s.heap m) (hN : News h₀ L s.heap news)
    (h : ∀ h' t' k, Fr h₀ L h' m → News h₀ L h' news → Q (.bytes #[5, 5, 5, 5] t') { s with heap := h', toks := k })
    (hs : subscripted slice false (.bytes #[5, 5, 5, 5] t) (.ref s.heap.objs.size) = operate [.ref s.heap.objs.size, .bytes #[5, 5, 5, 5] t] (getItem (.bytes #[5, 5, 5, 5] t) (.ref s.heap.objs.size)) := by with_unfolding_all rfl)
    (ht : ∀ r, letTemporaryGo value (.bytes #[5, 5, 5, 5] t) r = pure () := by intro _; with_unfolding_all rfl) :
    wpAny (model prog w) A (subscriptTail value slice (.bytes #[5, 5, 5, 5] t) (.ref s.heap.objs.size)) Q E { s with heap := s.heap.push { cls := .type "slice", data := .fields #[.none, .none, .int (-1) u] } } :=
  tail_of_ItemOn ⟨"bytes", _, FB.slot_bytes_getitem.lookup, typeIs_bytes _ _ _, getItem_meets (typeIs_bytes _ _ _) (by decide) FB.slot_bytes_getitem FB.entry_bytes_getitem (FB.args_bytes_getitem_2 _ _) (meets_rev4 t _)
    ⟨Heap.IsSliceOf.new _ _ _ _, h _ _ _ (hF.push _) (News.pushKeep hN _)⟩⟩ hs ht
theorem cut4_N {prog : Program} {w : World} {A : Around} {E : Value → Shared → Prop} {s : Shared} {value slice : PySem.Expr} {b : Array UInt8} {t : Tok} {h₀ : Heap} {L : Addr} {m : PySem.Str → Option Value} {news : List (Addr × Obj)} {l u : Value} {lo hi : Option Int} {Q : Value → Shared → Prop} (hF : Fr h₀ L s.heap m) (hN : News h₀ L s.heap news) (hl : IsPart l lo) (hu : IsPart u hi) (hne : KBy.whole b lo hi = false) (e : KBy.picked b lo hi = #[5, 5, 5, 5])
    (h : ∀ h' t' k, Fr h₀ L h' m → News h₀ L h' news → Q (.bytes #[5, 5, 5, 5] t') { s with heap := h', toks := k })
    (hs : subscripted slice false (.bytes b t) (.ref s.heap.objs.size) = operate [.ref s.heap.objs.size, .bytes b t] (getItem (.bytes b t) (.ref s.heap.objs.size)) := by with_unfolding_all rfl)
    (ht : ∀ r, letTemporaryGo value (.bytes b t) r = pure () := by intro _; with_unfolding_all rfl) :
    wpAny (model prog w) A (subscriptTail value slice (.bytes b t) (.ref s.heap.objs.size)) Q E { s with heap := s.heap.push { cls := .type "slice", data := .fields #[l, u, .none] } } :=
  KBy.slice_N hF hN hl hu hne (by rw [e]; decide +kernel) (by rw [e]; exact h) hs ht
def val5 (i : Nat) : Int := [0, 5, 1285, 328965, 84215045].getD i 0
theorem val5_ok : ∀ i, i < 4 → 0 ≤ val5 i ∧ val5 i < 1000000000 ∧ Builtin.bitOr (val5 i * 256) 5 = val5 (i + 1) := by decide +kernel
theorem bytes4_go {prog : Program} {w : World} {A : Around} {E : Value → Shared → Prop} {s : Shared} {env : Env} {h₀ : Heap} {body : List Stmt} {Q : Flow → Shared → Prop} {m₀ : Str → Option Value} {news : List (Addr × Obj)} {x y : Str} {I : Addr} (hxy : y ≠ x) (off : ∀ p ∈ news, p.1 < I)
    (turn : ∀ i t u u2 h tk it, i < 4 → Fr h₀ env.locals h (fun z => if z = x then some (.int 5 u) else if z = y then some (.int (val5 i) t) else if z = x then u2 else m₀ z) → News h₀ env.locals h ((I, it) :: news) →
      wpAny (model prog w) A (execs body env) (fun f s' => DcQ (f = .next ∧ ∃ t' m' h' tk', s' = { s with heap := h', toks := tk' } ∧ KeepsN [x, y] m₀ m' ∧ m' y = some (.int (val5 (i + 1)) t') ∧ Fr h₀ env.locals h' m' ∧ News h₀ env.locals h' ((I, it) :: news))) E { s with heap := h, toks := tk })
    (done : ∀ t u2 h tk, Fr h₀ env.locals h (fun z => if z = y then some (.int (val5 4) t) else if z = x then u2 else m₀ z) → News h₀ env.locals h news → Q .next { s with heap := h, toks := tk }) :
    ∀ j i m₁ t, i + j = 4 → KeepsN [x, y] m₀ m₁ → m₁ y = some (.int (val5 i) t) → BytesRest prog w A E h₀ env x body Q s I (List.replicate j 5) m₁ news
  | 0, i, m₁, t, e, hm, hy => by
    intro h tk F N
    obtain rfl : i = 4 := e
    refine done t (m₁ x) h tk ?_ N
    have e2 : (fun z => if z = y then some (Value.int (val5 4) t) else if z = x then m₁ x else m₀ z) = m₁ := by
      funext z
      by_cases h1 : z = y
      · rw [if_pos h1, h1, hy]
      · by_cases h2 : z = x
        · rw [if_neg h1, if_pos h2, h2]
        · rw [if_neg h1, if_neg h2]; exact (hm z (by simp [h1, h2])).symm
    rw [e2]; exact F
  | j + 1, i, m₁, t, e, hm, hy => by
    intro _ _ u it h tk F N
    have e2 : (fun z => if z = x then some (Value.int 5 u) else m₁ z) = (fun z => if z = x then some (Value.int 5 u) else if z = y then some (Value.int (val5 i) t) else if z = x then m₁ x else m₀ z) := by
      funext z
      by_cases h2 : z = x
      · rw [if_pos h2, if_pos h2]
      · rw [if_neg h2, if_neg h2]
        by_cases h1 : z = y
        · rw [if_pos h1, h1, hy]
        · rw [if_neg h1, if_neg h2]; exact hm z (by simp [h1, h2])
    rw [e2] at F
    refine wpAny_mono (turn i t u (m₁ x) h tk it (by omega) F N) (fun f s' hd => ?_) fun _ _ z => z
    obtain ⟨rfl, t', m', h', tk', rfl, hm', hy', F', N'⟩ := hd
    exact ⟨h', tk', m', news, rfl, F', N', fun p hp => Nat.ne_of_lt (off p hp), bytes4_go hxy off turn done j (i + 1) m' t' (by omega) hm' hy'⟩
theorem bytes4 {prog : Program} {w : World} {A : Around} {E : Value → Shared → Prop} {s : Shared} {env : Env} {h₀ : Heap} {body : List Stmt} {Q : Flow → Shared → Prop} {m₀ : Str → Option Value} {news : List (Addr × Obj)} {x y : Str} {t t0 : Tok} (hxy : y ≠ x) (hh : A.handled = none) (F : Fr h₀ env.locals s.heap m₀) (N : News h₀ env.locals s.heap news) (hy : m₀ y = some (.int 0 t0))
    (turn : ∀ i t u u2 h tk I it, i < 4 → Fr h₀ env.locals h (fun z => if z = x then some (.int 5 u) else if z = y then some (.int (val5 i) t) else if z = x then u2 else m₀ z) → News h₀ env.locals h ((I, it) :: news) →
      wpAny (model prog w) A (execs body env) (fun f s' => DcQ (f = .next ∧ ∃ t' m' h' tk', s' = { s with heap := h', toks := tk' } ∧ KeepsN [x, y] m₀ m' ∧ m' y = some (.int (val5 (i + 1)) t') ∧ Fr h₀ env.locals h' m' ∧ News h₀ env.locals h' ((I, it) :: news))) E { s with heap := h, toks := tk })
    (done : ∀ t u2 h tk, Fr h₀ env.locals h (fun z => if z = y then some (.int (val5 4) t) else if z = x then u2 else m₀ z) → News h₀ env.locals h news → Q .next { s with heap := h, toks := tk }) :
    wpAny (model prog w) A (pyIter (.bytes #[5, 5, 5, 5] t)) (fun it s₂ => LoopAtV prog w A h₀ env x body Q E it s₂) E s :=
  iter_bytesUnr (l := List.replicate 4 5) hh F N (by decide +kernel) fun I hI => bytes4_go hxy hI (fun i t u u2 h tk it => turn i t u u2 h tk I it) done 4 0 m₀ t0 rfl .refl hy
theorem shl8 {prog : Program} {w : World} {A : Around} {E : Value → Shared → Prop} {s : Shared} {Q : Value → Shared → Prop} {a : Int} {t u : Tok} (h0 : 0 ≤ a) (h1 : a < 1000000000) (h : Q (.int (a * 256) s.toks) { s with toks := s.toks + 1 }) : wpAny (model prog w) A (binaryOp .LShift (.int a t) (.int 8 u)) Q E s :=
  lshift_int_small (by decide) (by decide) (by omega) h
theorem u_shl8 : True := by (k_with "shl" => (with_reducible refine shl8 ?_ ?_ ?_; omega; omega)); trivial
local macro_rules | `(tactic| walk_at "exec For Name Subscript cons nil") => `(tactic| (k_here; k_extra "for"))
theorem u_bcut : True := by (k_with "bcut" => ((with_reducible show wpAny _ _ (subscriptTail _ (Expr.Slice _ _ none _) (Value.bytes _ _) (Value.ref _)) _ _ _); (with_reducible rename Fr _ _ _ _ => F'); (with_reducible rename News _ _ _ _ => N'); (refine cut4_N (s := ⟨_, _, _, _, _⟩) F' N' (by constructor) (by constructor) (by first | with_reducible assumption | decide +kernel) (by first | with_reducible assumption | decide +kernel) ?_); intro h' t' k' F' N')); trivial
theorem u_brev : True := by (k_with "bcut" => ((with_reducible show wpAny _ _ (subscriptTail _ (Expr.Slice none none (some _) _) (Value.bytes _ _) (Value.ref _)) _ _ _); (with_reducible rename Fr _ _ _ _ => F'); (with_reducible rename News _ _ _ _ => N'); (refine rev4_N (s := ⟨_, _, _, _, _⟩) F' N' ?_); intro h' t' k' F' N')); trivial
theorem u_for3 : True := by (k_with "for" => ((rename Fr _ _ _ _ => lF'); with_unfolding_all refine' for_S lF' ?k1 ?k2 ?_ ?k3 ?k4; (case k1 => exact rfl); (case k2 => exact rfl); (case k3 => intro _; rfl); (case k4 => assumption); k_whole)); trivial
theorem quad (i : Int) : (i + 4) / 4 = i / 4 + 1 := Int.add_ediv_of_dvd_right ⟨1, rfl⟩
theorem map3 {m : Str → Option Value} {a b c : Str} {x y z : Option Value} (h1 : m a = x) (h2 : m b = y) (h3 : m c = z) : m = fun n => if n = a then x else if n = b then y else if n = c then z else m n := by
  funext n
  by_cases e1 : n = a
  · rw [if_pos e1, e1, h1]
  · rw [if_neg e1]
    by_cases e2 : n = b
    · rw [if_pos e2, e2, h2]
    · rw [if_neg e2]
      by_cases e3 : n = c
      · rw [if_pos e3, e3, h3]
      · rw [if_neg e3]
theorem map5 {m : Str → Option Value} {a b c d e : Str} {x y z u v : Option Value} (h1 : m a = x) (h2 : m b = y) (h3 : m c = z) (h4 : m d = u) (h5 : m e = v) : m = fun n => if n = a then x else if n = b then y else if n = c then z else if n = d then u else if n = e then v else m n := by
  funext n
  by_cases e1 : n = a
  · rw [if_pos e1, e1, h1]
  · rw [if_neg e1]
    by_cases e2 : n = b
    · rw [if_pos e2, e2, h2]
    · rw [if_neg e2]
      by_cases e3 : n = c
      · rw [if_pos e3, e3, h3]
      · rw [if_neg e3]
        by_cases e4 : n = d
        · rw [if_pos e4, e4, h4]
        · rw [if_neg e4]
          by_cases e5 : n = e
          · rw [if_pos e5, e5, h5]
          · rw [if_neg e5]
theorem frMap5 {h₀ h : Heap} {L : Addr} {m : Str → Option Value} {a b c d e : Str} {x y z u v : Option Value} (F : Fr h₀ L h m) (h1 : m a = x) (h2 : m b = y) (h3 : m c = z) (h4 : m d = u) (h5 : m e = v) : Fr h₀ L h (fun n => if n = a then x else if n = b then y else if n = c then z else if n = d then u else if n = e then v else m n) :=
  Eq.subst (motive := fun q => Fr h₀ L h q) (map5 h1 h2 h3 h4 h5) F
theorem frMap3 {h₀ h : Heap} {L : Addr} {m : Str → Option Value} {a b c : Str} {x y z : Option Value} (F : Fr h₀ L h m) (h1 : m a = x) (h2 : m b = y) (h3 : m c = z) : Fr h₀ L h (fun n => if n = a then x else if n = b then y else if n = c then z else m n) :=
  Eq.subst (motive := fun q => Fr h₀ L h q) (map3 h1 h2 h3) F
/-- the body of the while that stands at place j of a def's body -/
noncomputable def whlB (l : List Stmt) (j : Nat) : List Stmt := match pick l j with | .While (body := b) .. => b | _ => []
section
variable {w : World} {p : Program} {loose : List Str} {mean : ExcName → Option Value} {mg mb : Str → Option Value} {dp un : Nat} {gd : Option (List Code)} {cn : Str} {cs : Scope} {a La : Addr} {ccd cdv : Value} {cl : List (Str × Addr)} {outer : List Env} {base h₀ : Heap} {L : Addr} {m : Str → Option Value} {s : Shared} {Q : Flow → Shared → Prop} {E : Value → Shared → Prop} {tl : List (Addr × Obj)} {mem dmem dw : Addr} {ow : Obj} {M : Int → Int}
theorem store_turn {i j : Int} {t1 t2 t3 t4 : Tok} (B : Below (ktrTop dp un gd cn cs La a ccd cl outer) base (envX cn cs La a ccd cl :: outer) h₀) (F : Fr h₀ L s.heap m) (X : (K w.params).In h₀) (T : Top p loose mean mg mb h₀) (hd : dp + 2 < recursionLimit) (hu : un + 16 < cLine)
    (hE : PassesOwn (model PySem.Challenge.rw_pf0221_01.prog w) ((ktrTop dp un gd cn cs La a ccd cl outer).deeper (envOf (Str.ofString "Memory.store") (fnS (at2 42 15)) L 593 cdv)) (envOf (Str.ofString "Memory.store") (fnS (at2 42 15)) L 593 cdv) E)
    (N2 : News h₀ L s.heap ((dw, ow) :: tl)) (hm' : MemIn tl mem dmem dw) (mv1 : ∀ p ∈ tl, p.1 ≠ dw) (hi : IntD w ow M) (lo : (dw == sysModules) = false) (i0 : 0 ≤ i) (i1 : i < 1024) (i4 : i % 4 = 0) (j0 : 0 ≤ j) (j1 : j ≤ 12)
    (e1 : m (Str.ofString "at") = some (.int j t1)) (e2 : m (Str.ofString "place") = some (.int i t2)) (e3 : m (Str.ofString "end") = some (.int 16 t3)) (e4 : m (Str.ofString "octets") = some (.bytes [5, 5, 5, 5, 5, 5, 5, 5, 5, 5, 5, 5, 5, 5, 5, 5].toArray t4)) (e5 : m (Str.ofString "self") = some (.ref mem))
    (w1 : KBy.whole #[5, 5, 5, 5, 5, 5, 5, 5, 5, 5, 5, 5, 5, 5, 5, 5] (some j) (some (j + 4)) = false) (w2 : KBy.picked #[5, 5, 5, 5, 5, 5, 5, 5, 5, 5, 5, 5, 5, 5, 5, 5] (some j) (some (j + 4)) = #[5, 5, 5, 5])
    (ret : ∀ (ow' : Obj) (x : Int) (m₁ : Str → Option Value) (u1 u2 : Tok) (h' : Heap) (tk' : Nat), Fr h₀ L h' (fun n => if n = Str.ofString "at" then some (.int (j + 4) u1) else if n = Str.ofString "place" then some (.int (i + 4) u2) else if n = Str.ofString "end" then some (.int 16 t3) else if n = Str.ofString "octets" then some (.bytes [5, 5, 5, 5, 5, 5, 5, 5, 5, 5, 5, 5, 5, 5, 5, 5].toArray t4) else if n = Str.ofString "self" then some (.ref mem) else m₁ n) → News h₀ L h' ((dw, ow') :: tl) → IntD w ow' (put M (i / 4) x) → Q .next { s with heap := h', toks := tk' }) :
    wpAny (model PySem.Challenge.rw_pf0221_01.prog w) ((ktrTop dp un gd cn cs La a ccd cl outer).deeper (envOf (Str.ofString "Memory.store") (fnS (at2 42 15)) L 593 cdv)) (execs (whlB (fnB (at2 42 15)) 2) (envOf (Str.ofString "Memory.store") (fnS (at2 42 15)) L 593 cdv)) Q E s := by
  rw [map5 e1 e2 e3 e4 e5] at F
  clear e1 e2 e3 e4 e5
  obtain ⟨v9, hm1, hm2, hm3, hm4⟩ := id hm'
  k_steps
  unfold DcQ
  refine bytes4 (y := Str.ofString "value") (by decide) (by rfl) (by k_asm) (by k_asm) (by rfl) ?turn ?done
  case turn =>
    intro i9 t9 u9 u29 h tk I it i4 F' N'
    obtain ⟨b1, b2, b3⟩ := val5_ok i9 i4
    k_steps
    refine' ⟨rfl, _, _, _, _, rfl, ?keeps, ?v, ?F, ?N⟩
    case F => k_asm
    case N => k_asm
    case v => rw [← b3]; exact if_pos rfl
    case keeps => intro z hz; simp only [List.mem_cons, List.not_mem_nil, or_false, not_or] at hz; simp only [hz.1, hz.2, if_false]
  case done =>
    intro t9 u29 h tk F' N'
    k_steps
    exact ret _ _ _ _ _ _ _ (frMap5 (by k_asm) (by rfl) (by rfl) (by rfl) (by rfl) (by rfl)) (by k_asm) (by assumption)
theorem zero_turn {i e : Int} {t2 t3 : Tok} (B : Below (ktrTop dp un gd cn cs La a ccd cl outer) base (envX cn cs La a ccd cl :: outer) h₀) (F : Fr h₀ L s.heap m) (X : (K w.params).In h₀) (T : Top p loose mean mg mb h₀) (hd : dp + 2 < recursionLimit) (hu : un + 16 < cLine)
    (N2 : News h₀ L s.heap ((dw, ow) :: tl)) (hm' : MemIn tl mem dmem dw) (mv1 : ∀ p ∈ tl, p.1 ≠ dw) (hi : IntD w ow M) (lo : (dw == sysModules) = false) (i0 : 0 ≤ i) (i1 : i < 1024) (i4 : i % 4 = 0) (e0 : i + 4 ≤ e)
    (e2 : m (Str.ofString "place") = some (.int i t2)) (e3 : m (Str.ofString "end") = some (.int e t3)) (e5 : m (Str.ofString "self") = some (.ref mem))
    (ret : ∀ (ow' : Obj) (m₁ : Str → Option Value) (u2 : Tok) (h' : Heap) (tk' : Nat), Fr h₀ L h' (fun n => if n = Str.ofString "place" then some (.int (i + 4) u2) else if n = Str.ofString "end" then some (.int e t3) else if n = Str.ofString "self" then some (.ref mem) else m₁ n) → News h₀ L h' ((dw, ow') :: tl) → IntD w ow' (put M (i / 4) 0) → Q .next { s with heap := h', toks := tk' }) :
    wpAny (model PySem.Challenge.rw_pf0221_01.prog w) ((ktrTop dp un gd cn cs La a ccd cl outer).deeper (envOf (Str.ofString "Memory.zero") (fnS (at2 42 16)) L 600 cdv)) (execs (whlB (fnB (at2 42 16)) 2) (envOf (Str.ofString "Memory.zero") (fnS (at2 42 16)) L 600 cdv)) Q E s := by
  rw [map3 e2 e3 e5] at F
  clear e2 e3 e5
  obtain ⟨v9, hm1, hm2, hm3, hm4⟩ := id hm'
  k_steps
  exact ret _ _ _ _ _ (frMap3 (by k_asm) (by rfl) (by rfl) (by rfl)) (by k_asm) (by assumption)
end
section
variable {w : World} {p : Program} {loose : List Str} {mean : ExcName → Option Value} {mg mb : Str → Option Value} {dp un : Nat} {gd : Option (List Code)} {cn : Str} {cs : Scope} {a : Addr} {ccd : Value} {cl : List (Str × Addr)} {outer : List Env} {A₀ : Around} {base h₀ : Heap} {L : Addr} {m : Str → Option Value} {s : Shared} {Q E : Value → Shared → Prop} {news tl : List (Addr × Obj)} {g : Obj → List (Addr × Obj)} {mem dmem dw : Addr} {ow : Obj} {M : Int → Int}
  (B : Below A₀ base outer h₀) (F : Fr h₀ L s.heap m) (X : (K w.params).In h₀) (T : Top p loose mean mg mb h₀) (hk : cs.kind = .function)
include B F X T hk
theorem c_need (N : News h₀ L s.heap news) (hd : dp + 1 < recursionLimit) (hu : un + 8 < cLine) (hm : MemIn news mem dmem dw) {i : Int} {t t' : Tok} (i0 : 0 ≤ i) (i1 : i + 16 ≤ 1024)
    (ret : ∀ h' tk', Fr h₀ L h' m → News h₀ L h' news → Q .none { s with heap := h', toks := tk' }) :
    wpAny (model PySem.Challenge.rw_pf0221_01.prog w) (ktrTop dp un gd cn cs L a ccd cl outer) (call (.ref 502) [.ref mem, .int i t, .int 16 t']) Q E s := by
  obtain ⟨v9, hm1, hm2, hm3, hm4⟩ := hm
  k_extra "enter"
  k_steps
  refine ret _ _ ?_ ?_ <;> k_asm
theorem u_need : True := by (k_with "ctr" => ((with_reducible show wpAny _ _ (call (Value.ref 502) _) _ _ _); k_dflt (refine c_need (by k_asm) (by k_asm) (by k_asm) (by k_asm) (by k_extra "base") (by k_asm) (by ktr_room) (by ktr_units) (by k_extra "memin") (by omega) (by omega) ?_); intro h' tk' F' N'; try dsimp only)); trivial
theorem c_zero (N : News h₀ L s.heap news) (hd : dp + 2 < recursionLimit) (hu : un + 16 < cLine) (hm : MemIn news mem dmem dw) (hi : IntD w ow M) (lo : (dw == sysModules) = false) (U : UpdF dw ow news g) {i : Int} {t u : Tok} (i0 : 0 ≤ i) (i1 : i < 1024) (i4 : i % 16 = 0)
    (ret : ∀ ow' M' h' tk', Fr h₀ L h' m → News h₀ L h' (g ow') → IntD w ow' M' → (∀ x, x < i / 4 ∨ i / 4 + 4 ≤ x → M' x = M x) → (∀ x, i / 4 ≤ x → x < i / 4 + 4 → M' x = 0) → Q .none { s with heap := h', toks := tk' }) :
    wpAny (model PySem.Challenge.rw_pf0221_01.prog w) (ktrTop dp un gd cn cs L a ccd cl outer) (call (.ref 600) [.ref mem, .int i t, .int 16 u]) Q E s := by
  obtain ⟨tl, mv1, mv2, _, mv⟩ := upd_move U
  have N2 := (mv _ _ _).1 N
  have hm' := hm.mono mv2
  clear N
  have hm'' := hm'
  obtain ⟨v9, hm1, hm2, hm3, hm4⟩ := hm''
  (k_with "tok" => ((with_reducible show wpAny _ _ (execs [_, Stmt.If _ _ _ _, _] _) _ _ _); (rename StopT => zzS); clear zzS; refine dcq_stop ?_))
  have hst : StopT := trivial
  k_extra "enter"
  k_steps
  unfold DcQ
  k_dflt (refine zero_turn (i := i) (e := i + 16) B' (by k_asm) X' T' hd hu (by first | k_asm | exact news_drop (by k_asm)) hm' mv1 (by assumption) lo (by omega) (by omega) (by omega) (by omega) (by rfl) (by rfl) (by rfl) ?_)
  intro ow9 m9 u9 h9 tk9 F9 N9 d9
  have hst : StopT := trivial
  k_steps
  unfold DcQ
  k_dflt (refine zero_turn (i := i + 4) (e := i + 16) B' (by k_asm) X' T' hd hu (by first | k_asm | exact news_drop (by k_asm)) hm' mv1 (by assumption) lo (by omega) (by omega) (by omega) (by omega) (by rfl) (by rfl) (by rfl) ?_)
  intro ow9 m9 u9 h9 tk9 F9 N9 d9
  have hst : StopT := trivial
  k_steps
  unfold DcQ
  k_dflt (refine zero_turn (i := i + 4 + 4) (e := i + 16) B' (by k_asm) X' T' hd hu (by first | k_asm | exact news_drop (by k_asm)) hm' mv1 (by assumption) lo (by omega) (by omega) (by omega) (by omega) (by rfl) (by rfl) (by rfl) ?_)
  intro ow9 m9 u9 h9 tk9 F9 N9 d9
  have hst : StopT := trivial
  k_steps
  unfold DcQ
  k_dflt (refine zero_turn (i := i + 4 + 4 + 4) (e := i + 16) B' (by k_asm) X' T' hd hu (by first | k_asm | exact news_drop (by k_asm)) hm' mv1 (by assumption) lo (by omega) (by omega) (by omega) (by omega) (by rfl) (by rfl) (by rfl) ?_)
  intro ow9 m9 u9 h9 tk9 F9 N9 d9
  k_steps
  have q1 : (i + 4) / 4 = i / 4 + 1 := quad i
  have q2 : (i + 4 + 4) / 4 = i / 4 + 2 := by rw [quad (i + 4), q1, Int.add_assoc]; rfl
  have q3 : (i + 4 + 4 + 4) / 4 = i / 4 + 3 := by rw [quad (i + 4 + 4), q2, Int.add_assoc]; rfl
  refine' ret _ _ _ _ ?qa ((mv _ _ _).2 _ ?qb) ?qc ?qd ?qe
  case qa => k_asm
  case qb => k_asm
  case qc => assumption
  case qd => intro x hx; rw [q1, q2, q3]; simp only [put]; rw [if_neg (by omega), if_neg (by omega), if_neg (by omega), if_neg (by omega)]
  case qe =>
    clear ret
    intro x hx hy
    rw [q1, q2, q3]
    simp only [put]
    by_cases g1 : x = i / 4 + 3
    · exact if_pos g1
    · rw [if_neg g1]
      by_cases g2 : x = i / 4 + 2
      · exact if_pos g2
      · rw [if_neg g2]
        by_cases g3 : x = i / 4 + 1
        · exact if_pos g3
        · rw [if_neg g3]
          exact if_pos (by omega)
theorem u_zero : True := by (k_with "ctr" => ((with_reducible show wpAny _ _ (call (Value.ref 600) _) _ _ _); k_dflt (refine c_zero (by k_asm) (by k_asm) (by k_asm) (by k_asm) (by k_extra "base") (by k_asm) (by ktr_room) (by ktr_units) (by k_extra "memin") (by assumption) (by assumption) (by k_updF) (by omega) (by omega) (by omega) ?_); intro ow' M9 h' tk' F' N' d' mx9 mz9; try dsimp only at N'; try dsimp only)); trivial
theorem c_mstore (N : News h₀ L s.heap news) (hd : dp + 2 < recursionLimit) (hu : un + 16 < cLine) (hm : MemIn news mem dmem dw) (hi : IntD w ow M) (lo : (dw == sysModules) = false) (U : UpdF dw ow news g) {i : Int} {t u : Tok} (i0 : 0 ≤ i) (i1 : i < 1024) (i4 : i % 16 = 0)
    (ret : ∀ ow' M' h' tk', Fr h₀ L h' m → News h₀ L h' (g ow') → IntD w ow' M' → (∀ x, x < i / 4 ∨ i / 4 + 4 ≤ x → M' x = M x) → Q .none { s with heap := h', toks := tk' }) :
    wpAny (model PySem.Challenge.rw_pf0221_01.prog w) (ktrTop dp un gd cn cs L a ccd cl outer) (call (.ref 593) [.ref mem, .int i t, .bytes [5, 5, 5, 5, 5, 5, 5, 5, 5, 5, 5, 5, 5, 5, 5, 5].toArray u]) Q E s := by
  obtain ⟨tl, mv1, mv2, _, mv⟩ := upd_move U
  have N2 := (mv _ _ _).1 N
  have hm' := hm.mono mv2
  clear N
  have hm'' := hm'
  obtain ⟨v9, hm1, hm2, hm3, hm4⟩ := hm''
  (k_with "tok" => ((with_reducible show wpAny _ _ (execs [_, _, Stmt.For _ _ _ _ _, _, _, _] _) _ _ _); (rename StopT => zzS); clear zzS; refine dcq_stop ?_))
  have hst : StopT := trivial
  k_extra "enter"
  k_steps
  unfold DcQ
  k_dflt (refine store_turn (i := i) (j := 0) B' (by k_asm) X' T' hd hu (by passes_own) (by first | k_asm | exact news_drop (by k_asm)) hm' mv1 (by assumption) lo (by omega) (by omega) (by omega) (by omega) (by omega) (by rfl) (by rfl) (by rfl) (by rfl) (by rfl) (by decide +kernel) (by decide +kernel) ?_)
  intro ow9 x0 m9 u9 u8 h9 tk9 F9 N9 d9
  have hst : StopT := trivial
  k_steps
  unfold DcQ
  k_dflt (refine store_turn (i := i + 4) (j := 0 + 4) B' (by k_asm) X' T' hd hu (by passes_own) (by first | k_asm | exact news_drop (by k_asm)) hm' mv1 (by assumption) lo (by omega) (by omega) (by omega) (by omega) (by omega) (by rfl) (by rfl) (by rfl) (by rfl) (by rfl) (by decide +kernel) (by decide +kernel) ?_)
  intro ow9 x1 m9 u9 u8 h9 tk9 F9 N9 d9
  have hst : StopT := trivial
  k_steps
  unfold DcQ
  k_dflt (refine store_turn (i := i + 4 + 4) (j := 0 + 4 + 4) B' (by k_asm) X' T' hd hu (by passes_own) (by first | k_asm | exact news_drop (by k_asm)) hm' mv1 (by assumption) lo (by omega) (by omega) (by omega) (by omega) (by omega) (by rfl) (by rfl) (by rfl) (by rfl) (by rfl) (by decide +kernel) (by decide +kernel) ?_)
  intro ow9 x2 m9 u9 u8 h9 tk9 F9 N9 d9
  have hst : StopT := trivial
  k_steps
  unfold DcQ
  k_dflt (refine store_turn (i := i + 4 + 4 + 4) (j := 0 + 4 + 4 + 4) B' (by k_asm) X' T' hd hu (by passes_own) (by first | k_asm | exact news_drop (by k_asm)) hm' mv1 (by assumption) lo (by omega) (by omega) (by omega) (by omega) (by omega) (by rfl) (by rfl) (by rfl) (by rfl) (by rfl) (by decide +kernel) (by decide +kernel) ?_)
  intro ow9 x3 m9 u9 u8 h9 tk9 F9 N9 d9
  k_steps
  have q1 : (i + 4) / 4 = i / 4 + 1 := quad i
  have q2 : (i + 4 + 4) / 4 = i / 4 + 2 := by rw [quad (i + 4), q1, Int.add_assoc]; rfl
  have q3 : (i + 4 + 4 + 4) / 4 = i / 4 + 3 := by rw [quad (i + 4 + 4), q2, Int.add_assoc]; rfl
  refine' ret _ _ _ _ ?qa ((mv _ _ _).2 _ ?qb) ?qc ?qd
  case qa => k_asm
  case qb => k_asm
  case qc => assumption
  case qd => intro x hx; rw [q1, q2, q3]; simp only [put]; rw [if_neg (by omega), if_neg (by omega), if_neg (by omega), if_neg (by omega)]
theorem u_mstore : True := by (k_with "ctr" => ((with_reducible show wpAny _ _ (call (Value.ref 593) _) _ _ _); k_dflt (refine c_mstore (by k_asm) (by k_asm) (by k_asm) (by k_asm) (by k_extra "base") (by k_asm) (by ktr_room) (by ktr_units) (by k_extra "memin") (by assumption) (by assumption) (by k_updF) (by omega) (by omega) (by omega) ?_); intro ow' M9 h' tk' F' N' d' mx9; try dsimp only at N'; try dsimp only)); trivial
end
structure PV where
  k1 : Int
  k2 : Int
  k3 : Int
  k4 : Int
  k5 : Int
  k6 : Int
  k7 : Int
  k8 : Int
  t1 : Nat
  t2 : Nat
  t3 : Nat
  t4 : Nat
  t5 : Nat
  t6 : Nat
  t7 : Nat
  t8 : Nat
  u2 : Nat
  u3 : Nat
  u4 : Nat
  n : Nat
def pgE (v : PV) (mem gl dh : Addr) (n : Int) (u : Nat) : List DictEntry := [⟨v.k1, .str "memory" v.t1, .ref mem⟩, ⟨v.k2, .str "begin" v.t2, .int 960 v.u2⟩, ⟨v.k3, .str "count" v.t3, .int 4 v.u3⟩, ⟨v.k4, .str "size" v.t4, .int 16 v.u4⟩, ⟨v.k5, .str "fill" v.t5, .bool true⟩, ⟨v.k6, .str "untouched" v.t6, .int n u⟩, ⟨v.k7, .str "given" v.t7, .ref gl⟩, ⟨v.k8, .str "held" v.t8, .ref dh⟩]
theorem put_unt (v : PV) (mem gl dh : Addr) (n x : Int) (u t : Nat) (nn : Nat) (hs : Int) (tk : Nat) : (putL (Str.ofString "untouched") hs (.str "untouched" tk) (.int x t) (pgE v mem gl dh n u), putN (Str.ofString "untouched") (pgE v mem gl dh n u) nn) = (pgE v mem gl dh x t, nn) := by rfl
/-- the dict of the pages held -/
def HeldD (w : World) (o : Obj) (j : Nat) : Prop := ∃ kvs, o.IsDictOf (intKind PySem.Challenge.rw_pf0221_01.prog w) kvs ∧ kvs.length ≤ j
theorem stored_len {kvs : List (Int × Value)} {k : Int} {v : Value} : (stored kvs k v).length ≤ kvs.length + 1 := by
  unfold stored
  split
  · rw [List.length_map]; exact Nat.le_succ _
  · rw [List.length_append]; exact Nat.le_refl _
theorem held_set {w : World} {A : Around} {E : Value → Shared → Prop} {s : Shared} {h₀ : Heap} {L d : Addr} {m : Str → Option Value} {news : List (Addr × Obj)} {g : Obj → List (Addr × Obj)} {o : Obj} {j : Nat} {k v : Int} {t u : Tok} {Q : Unit → Shared → Prop} (F : Fr h₀ L s.heap m) (N : News h₀ L s.heap news) (U : UpdF d o news g) (hd : HeldD w o j) (hj : j ≤ 100)
    (h : ∀ h' o', Fr h₀ L h' m → News h₀ L h' (g o') → HeldD w o' (j + 1) → Q () { s with heap := h', toks := s.toks + 1 }) :
    wpAny (model PySem.Challenge.rw_pf0221_01.prog w) A (setItem (.ref d) (.int k t) (.int v u)) Q E s := by
  obtain ⟨kvs, i1, i2⟩ := hd
  exact kda_set (knd := intKind _ w) F N U i1 (intKind_is _ _ k t) (by rw [sizeLine_eq]; omega) fun h' o' F' N' hd' => h h' o' F' N' ⟨_, hd', Nat.le_trans stored_len (Nat.succ_le_succ i2)⟩
theorem u_heldset : True := by (k_with "seti" => ((with_reducible show wpAny _ _ (setItem (Value.ref _) (Value.int _ _) (Value.int _ _)) _ _ _); k_dflt (refine' held_set ?zzF ?zzN ?zzU ?zzd ?zzj ?_; (case zzd => assumption); (case zzF => k_asm); (case zzN => k_asm); (case zzU => k_updF); (case zzj => first | assumption | omega)); intro h' oh' F' N' hh9; try dsimp only at N')); trivial
theorem u_unt : True := by (k_with "setattr" => ((with_reducible show wpAny _ _ (setAttr (Value.ref _) (Str.ofString "untouched") (Value.int _ _)) _ _ _); k_dflt (refine' set_dict ?y1 ?y2 ?y3 ?y4 ?y5 ?y6 ?y7 ?y8 ?y9 ?y10 (put_unt ..) ?y12 ?y13 ?_; (case y1 => k_asm); (case y2 => k_asm); (case y3 => k_asm); (case y4 => k_inst); (case y5 => exact rfl); (case y6 => k_is); (case y7 => k_is); (case y8 => k_is); (case y9 => k_is); (case y10 => k_get); (case y12 => k_upd); (case y13 => exact Nat.le_of_ble_eq_true rfl); k_whole; intro h' F' N'))); trivial
theorem u_in811 : True := by (k_with "ctr" => ((with_reducible show wpAny _ _ (call (Value.ref 811) _) _ _ _); k_extra "enter")); trivial
theorem u_in804 : True := by (k_with "ctr" => ((with_reducible show wpAny _ _ (call (Value.ref 804) _) _ _ _); k_extra "enter")); trivial
theorem u_in776 : True := by (k_with "ctr" => ((with_reducible show wpAny _ _ (call (Value.ref 776) _) _ _ _); k_extra "enter")); trivial
theorem u_in818 : True := by (k_with "ctr" => ((with_reducible show wpAny _ _ (call (Value.ref 818) _) _ _ _); k_extra "enter")); trivial
structure PgOk (w : World) (T : List (Addr × Obj)) (mem dmem dw pgs dpg gl dh : Addr) (v : PV) : Prop where
  M : MemIn T mem dmem dw
  pg : (pgs, instObj 870 dpg) ∈ T
  gl : (gl, listOf ([] : List Value).toArray 0) ∈ T
  s1 : ∀ p ∈ T, p.1 ≠ dw
  s2 : ∀ p ∈ T, p.1 ≠ dpg
  s3 : ∀ p ∈ T, p.1 ≠ dh
  n1 : @Ne Nat dw dpg
  n2 : @Ne Nat dw dh
  n3 : @Ne Nat dpg dh
  lo : (dw == sysModules) = false
  lh : (dh == sysModules) = false
abbrev LP (dw dpg dh : Addr) (ow oh : Obj) (mem gl : Addr) (v : PV) (n : Int) (u : Nat) (T : List (Addr × Obj)) : List (Addr × Obj) := (dw, ow) :: (dpg, dictOf (pgE v mem gl dh n u) v.n) :: (dh, oh) :: T
section
variable {w : World} {p : Program} {loose : List Str} {mean : ExcName → Option Value} {mg mb : Str → Option Value} {dp un : Nat} {gd : Option (List Code)} {cn : Str} {cs : Scope} {a : Addr} {ccd : Value} {cl : List (Str × Addr)} {outer : List Env} {A₀ : Around} {base h₀ : Heap} {L : Addr} {m : Str → Option Value} {s : Shared} {Q E : Value → Shared → Prop} {T : List (Addr × Obj)} {mem dmem dw pgs dpg gl dh tab dtab lay dlay : Addr} {ow oh : Obj} {M : Int → Int} {v : PV} {n : Int} {un9 : Nat} {j : Nat}
  (B : Below A₀ base outer h₀) (F : Fr h₀ L s.heap m) (X : (K w.params).In h₀) (T0 : Top p loose mean mg mb h₀) (hk : cs.kind = .function)
include B F X T0 hk
theorem c_take (P : PgOk w T mem dmem dw pgs dpg gl dh v) (N : News h₀ L s.heap (LP dw dpg dh ow oh mem gl v n un9 T)) (hd : dp + 4 < recursionLimit) (hu : un + 32 < cLine) (hi : IntD w ow M) (hh : HeldD w oh j) (hj : j ≤ 100) (n0 : 0 ≤ n) (n3 : n < 4)
    (ret : ∀ ow' M' u' oh' t h' tk', Fr h₀ L h' m → News h₀ L h' (LP dw dpg dh ow' oh' mem gl v (n + 1) u' T) → IntD w ow' M' → HeldD w oh' (j + 1) → (∀ x, x < 240 + 4 * n ∨ 240 + 4 * n + 4 ≤ x → M' x = M x) → Q (.int (960 + n * 16) t) { s with heap := h', toks := tk' }) :
    wpAny (model PySem.Challenge.rw_pf0221_01.prog w) (ktrTop dp un gd cn cs L a ccd cl outer) (call (.ref 825) [.ref pgs]) Q E s := by
  have hM := P.M
  obtain ⟨v9, hm1, hm2, hm3, hm4⟩ := id hM
  have hpg := P.pg
  have hgl := P.gl
  have n1' := P.n1
  have n2' := P.n2
  have n3' := P.n3
  have s1' := P.s1
  have s2' := P.s2
  have s3' := P.s3
  have lo := P.lo
  have lh := P.lh
  k_extra "enter"
  k_steps
  exact ret _ _ _ _ _ _ _ (by k_asm) (news_perm (by k_asm) (by k_extra "stsub")) d' hh9 (fun x hx => mx9 x (by omega))
theorem u_take : True := by (k_with "ctr" => ((with_reducible show wpAny _ _ (call (Value.ref 825) _) _ _ _); k_dflt (refine c_take (by k_asm) (by k_asm) (by k_asm) (by k_asm) (by k_extra "base") (by assumption) (news_perm (by k_asm) (by k_extra "stsub")) (by ktr_room) (by ktr_units) (by assumption) (by assumption) (by first | assumption | omega) (by omega) (by omega) ?_); intro ow' M9 u9 oh' t9 h' tk' F' N' d' hh9 mx9; try dsimp only [LP] at N'; try dsimp only)); trivial
theorem c_newtab (P : PgOk w T mem dmem dw pgs dpg gl dh v) (hT : TabIn T tab dtab pgs lay dlay mem dmem dw) (N : News h₀ L s.heap (LP dw dpg dh ow oh mem gl v n un9 T)) (hd : dp + 5 < recursionLimit) (hu : un + 40 < cLine) (hi : IntD w ow M) (hh : HeldD w oh j) (hj : j ≤ 100) (n0 : 0 ≤ n) (n3 : n < 4)
    (ret : ∀ ow' M' u' oh' t h' tk', Fr h₀ L h' m → News h₀ L h' (LP dw dpg dh ow' oh' mem gl v (n + 1) u' T) → IntD w ow' M' → HeldD w oh' (j + 1) → (∀ x, x < 240 + 4 * n ∨ 240 + 4 * n + 4 ≤ x → M' x = M x) → (∀ x, 240 + 4 * n ≤ x → x < 240 + 4 * n + 4 → M' x = 0) → Q (.int (960 + n * 16) t) { s with heap := h', toks := tk' }) :
    wpAny (model PySem.Challenge.rw_pf0221_01.prog w) (ktrTop dp un gd cn cs L a ccd cl outer) (call (.ref 327) [.ref tab]) Q E s := by
  have hT' := hT
  obtain ⟨v1, m1, m2, hl, hm, b1, b2, b3, b4⟩ := hT'
  obtain ⟨v2, m3, m4⟩ := id hl
  obtain ⟨v3, m5, m6, m7, m8⟩ := id hm
  have hpg := P.pg
  have n1' := P.n1
  have n2' := P.n2
  have n3' := P.n3
  have s1' := P.s1
  have s2' := P.s2
  have s3' := P.s3
  have lo := P.lo
  k_extra "enter"
  k_steps
  rename (∀ x : Int, x < 240 + 4 * n ∨ 240 + 4 * n + 4 ≤ x → _ = M x) => mxa
  exact ret _ _ _ _ _ _ _ (by k_asm) (news_perm (by k_asm) (by k_extra "stsub")) d' (by assumption) (fun x hx => (mx9 x (by omega)).trans (mxa x hx)) (fun x hx hy => mz9 x (by omega) (by omega))
theorem u_newtab : True := by (k_with "ctr" => ((with_reducible show wpAny _ _ (call (Value.ref 327) _) _ _ _); k_dflt (refine c_newtab (by k_asm) (by k_asm) (by k_asm) (by k_asm) (by k_extra "base") (by assumption) (by assumption) (news_perm (by k_asm) (by k_extra "stsub")) (by ktr_room) (by ktr_units) (by assumption) (by assumption) (by first | assumption | omega) (by omega) (by omega) ?_); intro ow' M9 u9 oh' t9 h' tk' F' N' d' hh9 mx9 mz9; try dsimp only [LP] at N'; try dsimp only)); trivial
theorem c_walkn (P : PgOk w T mem dmem dw pgs dpg gl dh v) (hT : TabIn T tab dtab pgs lay dlay mem dmem dw) (N : News h₀ L s.heap (LP dw dpg dh ow oh mem gl v n un9 T)) (hd : dp + 6 < recursionLimit) (hu : un + 48 < cLine) (hi : IntD w ow M) (hh : HeldD w oh j) (hj : j ≤ 100) {i : Int} {t t1 : Tok} (i0 : 0 ≤ i) (i1 : i < 128) (hn : n = 1 + i / 64) (h1 : M (240 + i / 64) = 0)
    (ret : ∀ ow' M' u' oh' t h' tk', Fr h₀ L h' m → News h₀ L h' (LP dw dpg dh ow' oh' mem gl v (n + 1) u' T) → IntD w ow' M' → HeldD w oh' (j + 1) → (∀ x, x < 240 + 4 * n ∨ 240 + 4 * n + 4 ≤ x → x ≠ 240 + i / 64 → M' x = M x) → (∀ x, 240 + 4 * n ≤ x → x < 240 + 4 * n + 4 → M' x = 0) → M' (240 + i / 64) = 1024 * (61 + i / 64) + 1 → Q (.int (4 * (244 + i / 16)) t) { s with heap := h', toks := tk' }) :
    wpAny (model PySem.Challenge.rw_pf0221_01.prog w) (ktrTop dp un gd cn cs L a ccd cl outer) (call (.ref 342) [.ref tab, .int 960 t, .int i t1, .bool true]) Q E s := by
  have hT' := hT
  obtain ⟨v1, m1, m2, hl, hm, b1, b2, b3, b4⟩ := hT'
  obtain ⟨v2, m3, m4⟩ := id hl
  obtain ⟨v3, m5, m6, m7, m8⟩ := id hm
  have hpg := P.pg
  have n1' := P.n1
  have n2' := P.n2
  have n3' := P.n3
  have s1' := P.s1
  have s2' := P.s2
  have s3' := P.s3
  have lo := P.lo
  have lk1 := h1
  k_extra "enter"
  k_steps
  rw [show (1024 * ((960 + n * 16) / 16) + 1) / 1024 * 16 + 4 * (i / 16 % 4) = 4 * (244 + i / 16) by omega]
  refine ret _ _ _ _ _ _ _ (by k_asm) (news_perm (by k_asm) (by k_extra "stsub")) d' (by assumption) (fun x hx hy => ?_) (fun x hx hy => ?_) ?_
  · simp only [put]; rw [if_neg (by omega)]; exact mx9 x hx
  · simp only [put]; rw [if_neg (by omega)]; exact mz9 x hx hy
  · simp only [put]; rw [if_pos (by omega)]; omega
theorem u_walkn : True := by (k_with "ctr" => ((with_reducible show wpAny _ _ (call (Value.ref 342) [_, _, _, Value.bool true]) _ _ _); k_dflt (refine c_walkn (by k_asm) (by k_asm) (by k_asm) (by k_asm) (by k_extra "base") (by assumption) (by assumption) (news_perm (by k_asm) (by k_extra "stsub")) (by ktr_room) (by ktr_units) (by assumption) (by assumption) (by first | assumption | omega) (by omega) (by omega) (by assumption) (by k_extra "look") ?_); intro ow' M9 u9 oh' t9 h' tk' F' N' d' hh9 mx9 mz9 me9; try dsimp only [LP] at N'; try dsimp only)); trivial
theorem c_mapn (P : PgOk w T mem dmem dw pgs dpg gl dh v) (hT : TabIn T tab dtab pgs lay dlay mem dmem dw) (N : News h₀ L s.heap (LP dw dpg dh ow oh mem gl v n un9 T)) (hd : dp + 7 < recursionLimit) (hu : un + 56 < cLine) (hi : IntD w ow M) (hh : HeldD w oh j) (hj : j ≤ 100) {i x : Int} {t t1 t2 t3 : Tok} (i0 : 0 ≤ i) (i1 : i < 128) (i2 : i % 16 = 0) (hn : n = 1 + i / 64) (h1 : M (240 + i / 64) = 0) (h2 : M (244 + i / 16) = 0) (x0 : 0 ≤ x) (x8 : x < 8)
    (ret : ∀ ow' M' u' oh' h' tk', Fr h₀ L h' m → News h₀ L h' (LP dw dpg dh ow' oh' mem gl v (n + 1) u' T) → IntD w ow' M' → HeldD w oh' (j + 1) → (∀ y, y < 240 + 4 * n ∨ 240 + 4 * n + 4 ≤ y → y ≠ 240 + i / 64 → M' y = M y) → (∀ y, 240 + 4 * n ≤ y → y < 240 + 4 * n + 4 → y ≠ 244 + i / 16 → M' y = 0) → M' (240 + i / 64) = 1024 * (61 + i / 64) + 1 → IsE (M' (244 + i / 16)) x → Q .none { s with heap := h', toks := tk' }) :
    wpAny (model PySem.Challenge.rw_pf0221_01.prog w) (ktrTop dp un gd cn cs L a ccd cl outer) (call (.ref 370) [.ref tab, .int 960 t, .int i t1, .int (16 * x) t2, .int 22 t3]) Q E s := by
  have hT' := hT
  obtain ⟨v1, m1, m2, hl, hm, b1, b2, b3, b4⟩ := hT'
  obtain ⟨v2, m3, m4⟩ := id hl
  obtain ⟨v3, m5, m6, m7, m8⟩ := id hm
  have hpg := P.pg
  have n1' := P.n1
  have n2' := P.n2
  have n3' := P.n3
  have s1' := P.s1
  have s2' := P.s2
  have s3' := P.s3
  have lo := P.lo
  have lk1 := h1
  have lk2 := h2
  have hor : M (240 + i / 64) = 1024 * (61 + i / 64) + 1 ∨ M (240 + i / 64) = 0 := .inr h1
  have q3 : Builtin.bitOr 22 1 = 23 := by decide
  k_extra "enter"
  k_steps
  refine ret _ _ _ _ _ _ (by k_asm) (news_perm (by k_asm) (by k_extra "stsub")) d' (by assumption) (fun y hx hy => ?_) (fun y hx hy hz => ?_) ?_ ?_
  · simp only [put]; rw [if_neg (by omega)]; exact mx9 y hx hy
  · simp only [put]; rw [if_neg (by omega)]; exact mz9 y hx hy
  · simp only [put]; rw [if_neg (by omega)]; exact me9
  · simp only [put]; rw [if_pos (by omega)]; exact .inl (by omega)
end
local macro_rules | `(tactic| walk_at "testChain") => `(tactic| (k_here; k_extra "tch"))
local macro_rules | `(tactic| walk_at "eval Dict nil nil") => `(tactic| (k_here; k_extra "nd"))
theorem u_nd : True := by (k_with "nd" => (k_dflt (refine' newDict_K ?zz1 ?zz2 ?zz3 ?_; (case zz1 => k_asm); (case zz2 => k_asm); (case zz3 => exact Top.nolimit (by k_asm)); k_whole); intro d' h' o' F' N' l1 lo' hs' fs' hi' fi'; (try k_lt l1); (try clear fs' fi'))); trivial
theorem u_enter2 : True := by (k_with "enter2" => (k_dflt (refine' code_def ?k1 ?k2 ?k3 ?k4 ?k5 ?kA ?kF ?kK ?k6 ?k7 ?k8 ?k9 ?kB ?_ ?c2 ?c3 ?c4 ?c5; (case kA => exact rfl); (case kF => exact rfl); (case kK => first | assumption | exact rfl); (case k1 => k_asm); (case k2 => k_asm); (case k3 => k_asm); (case k4 => k_asm); (case k5 => k_asm); (case k6 => k_is); (case k7 => k_is); (case k8 => ktr_room); (case k9 => first | exact BindsTo.of_eq rfl | exact binds_K (by k_in) rfl (by k_is) rfl rfl rfl); (case c5 => decide); (case kB => exact locs rfl); (case c2 => exact rfl); (case c3 => exact rfl); (case c4 => exact rfl); k_whole; intro g' L' h' FG' F' N' B' X' T'; (try dsimp only); (try k_fold)))); trivial
theorem u_cls : True := by (k_with "cls" => (k_dflt (refine' call_cls ?k1 ?k2 ?k3 ?k4 ?k5 ?k6 ?_; (case k1 => k_asm); (case k2 => k_asm); (case k3 => k_asm); (case k4 => k_is); (case k5 => k_is); (case k6 => k_is); k_whole; intro x' d' h' F' N' l1 l2; (try k_lt l1); (try k_lt2 l2)); k_extra "enter2")); trivial
theorem u_in473 : True := by (k_with "ctr" => ((with_reducible show wpAny _ _ (call (Value.ref 473) _) _ _ _); k_extra "enter")); trivial
theorem u_stsubD : True := by (k_with "stsubD" => ((repeat (k_dflt (refine List.forall_mem_cons.mpr ⟨by k_mem, ?_⟩))); first | with_reducible exact forall_nil | (intro p9 hp9; repeat (first | assumption | apply List.mem_cons_of_mem)))); trivial
theorem u_tch : True := by (k_with "tch" => (k_dflt (refine test_link ?_))); trivial
section
variable {w : World} {p : Program} {loose : List Str} {mean : ExcName → Option Value} {mg mb : Str → Option Value} {dp un : Nat} {gd : Option (List Code)} {cn : Str} {cs : Scope} {a : Addr} {ccd : Value} {cl : List (Str × Addr)} {outer : List Env} {A₀ : Around} {base h₀ : Heap} {L : Addr} {m : Str → Option Value} {s : Shared} {Q E : Value → Shared → Prop} {news : List (Addr × Obj)}
  (B : Below A₀ base outer h₀) (F : Fr h₀ L s.heap m) (X : (K w.params).In h₀) (T0 : Top p loose mean mg mb h₀) (hk : cs.kind = .function)
include B F X T0 hk
theorem c_Memory (N : News h₀ L s.heap news) (hd : dp + 4 < recursionLimit) (hu : un + 40 < cLine) {t : Tok}
    (ret : ∀ x d dw o v h' tk', Fr h₀ L h' m → News h₀ L h' ((x, instObj 643 d) :: (d, dictOf (memE v dw) v.n) :: (dw, o) :: news) → (∀ p ∈ news, p.1 < d) → @LT.lt Nat _ d x → @LT.lt Nat _ x dw → (dw == sysModules) = false → IntD w o (fun _ => 0) → Q (.ref x) { s with heap := h', toks := tk' }) :
    wpAny (model PySem.Challenge.rw_pf0221_01.prog w) (ktrTop dp un gd cn cs L a ccd cl outer) (call (.ref 643) [.int 1024 t]) Q E s := by
  k_extra "cls"
  k_steps
  rename (∀ p : Addr × Obj, p ∈ news → p.1 < _) => la
  refine ret _ _ _ _ ⟨_, _, _, _, 0, 0, _, _, _, _, 0, 0, _, _, _, 0, 0, 0, _⟩ _ _ (by k_asm) (news_perm (by k_asm) (by k_extra "stsubD")) la (by omega) (by omega) (by assumption) ⟨[], by assumption, fun _ => rfl, fun p hp => nomatch hp⟩
theorem c_Layout (N : News h₀ L s.heap news) (hd : dp + 4 < recursionLimit) (hu : un + 40 < cLine) {t : Tok}
    (ret : ∀ x d v h' tk', Fr h₀ L h' m → News h₀ L h' ((x, instObj 182 d) :: (d, dictOf (layE v) v.n) :: news) → (∀ p ∈ news, p.1 < d) → @LT.lt Nat _ d x → Q (.ref x) { s with heap := h', toks := tk' }) :
    wpAny (model PySem.Challenge.rw_pf0221_01.prog w) (ktrTop dp un gd cn cs L a ccd cl outer) (call (.ref 182) [.int 4 t]) Q E s := by
  k_extra "cls"
  k_steps
  rename (∀ p : Addr × Obj, p ∈ news → p.1 < _) => la
  refine ret _ _ ⟨_, _, _, _, _, _, _, _, _, _, _, _, _, _, _, _, _, _, _⟩ _ _ (by k_asm) (news_perm (by k_asm) (by k_extra "stsubD")) la (by omega)
theorem c_Tables (N : News h₀ L s.heap news) (hd : dp + 4 < recursionLimit) (hu : un + 40 < cLine) {mem lay pgs : Addr}
    (ret : ∀ x d v h' tk', Fr h₀ L h' m → News h₀ L h' ((x, instObj 454 d) :: (d, dictOf (tabE v mem lay pgs) v.n) :: news) → (∀ p ∈ news, p.1 < d) → @LT.lt Nat _ d x → Q (.ref x) { s with heap := h', toks := tk' }) :
    wpAny (model PySem.Challenge.rw_pf0221_01.prog w) (ktrTop dp un gd cn cs L a ccd cl outer) (call (.ref 454) [.ref mem, .ref lay, .ref pgs]) Q E s := by
  k_extra "cls"
  k_steps
  rename (∀ p : Addr × Obj, p ∈ news → p.1 < _) => la
  refine ret _ _ ⟨_, _, _, 0, 0, 0, _, _, _, 0, 0, 0, 0, 0, 0, 0, 0, 0, _⟩ _ _ (by k_asm) (news_perm (by k_asm) (by k_extra "stsubD")) la (by omega)
theorem c_Walker (N : News h₀ L s.heap news) (hd : dp + 4 < recursionLimit) (hu : un + 40 < cLine) {bus lay : Addr}
    (ret : ∀ x d v h' tk', Fr h₀ L h' m → News h₀ L h' ((x, instObj 266 d) :: (d, dictOf (walE v bus lay) v.n) :: news) → (∀ p ∈ news, p.1 < d) → @LT.lt Nat _ d x → Q (.ref x) { s with heap := h', toks := tk' }) :
    wpAny (model PySem.Challenge.rw_pf0221_01.prog w) (ktrTop dp un gd cn cs L a ccd cl outer) (call (.ref 266) [.ref bus, .ref lay]) Q E s := by
  k_extra "cls"
  k_steps
  rename (∀ p : Addr × Obj, p ∈ news → p.1 < _) => la
  refine ret _ _ ⟨_, _, 0, 0, 0, 0, _, _, 0, 0, 0, 0, 0, 0, 0, 0, 0, 0, _⟩ _ _ (by k_asm) (news_perm (by k_asm) (by k_extra "stsubD")) la (by omega)
theorem c_Bus (N : News h₀ L s.heap news) (hd : dp + 4 < recursionLimit) (hu : un + 40 < cLine) {mem : Addr}
    (ret : ∀ x d ls v h' tk', Fr h₀ L h' m → News h₀ L h' ((x, instObj 750 d) :: (d, dictOf (busE v mem ls) v.n) :: news) → (∀ p ∈ news, p.1 < d) → @LT.lt Nat _ d x → Q (.ref x) { s with heap := h', toks := tk' }) :
    wpAny (model PySem.Challenge.rw_pf0221_01.prog w) (ktrTop dp un gd cn cs L a ccd cl outer) (call (.ref 750) [.ref mem]) Q E s := by
  k_extra "cls"
  k_steps
  rename (∀ p : Addr × Obj, p ∈ news → p.1 < _) => la
  refine ret _ _ _ ⟨_, _, 0, 0, 0, 0, _, _, 0, 0, 0, 0, 0, 0, 0, 0, 0, 0, _⟩ _ _ (by k_asm) (news_perm (by k_asm) (by k_extra "stsubD")) la (by omega)
theorem c_Pages (N : News h₀ L s.heap news) (hd : dp + 4 < recursionLimit) (hu : un + 40 < cLine) {mem : Addr} {t1 t2 t3 : Tok}
    (ret : ∀ x d gl dh oh v u h' tk', Fr h₀ L h' m → News h₀ L h' ((x, instObj 870 d) :: (d, dictOf (pgE v mem gl dh 0 u) v.n) :: (gl, listOf ([] : List Value).toArray 0) :: (dh, oh) :: news) → (∀ p ∈ news, p.1 < d) → @LT.lt Nat _ d x → @LT.lt Nat _ x gl → @LT.lt Nat _ gl dh → (dh == sysModules) = false → HeldD w oh 0 → Q (.ref x) { s with heap := h', toks := tk' }) :
    wpAny (model PySem.Challenge.rw_pf0221_01.prog w) (ktrTop dp un gd cn cs L a ccd cl outer) (call (.ref 870) [.ref mem, .int 960 t1, .int 4 t2, .int 16 t3]) Q E s := by
  k_extra "cls"
  k_steps
  rename (∀ p : Addr × Obj, p ∈ news → p.1 < _) => la
  refine ret _ _ _ _ _ ⟨_, _, _, _, _, _, _, _, _, _, _, _, _, _, _, _, _, _, _, _⟩ _ _ _ (by k_asm) (news_perm (by k_asm) (by k_extra "stsubD")) la (by omega) (by omega) (by omega) (by assumption) ⟨[], by assumption, Nat.le_refl _⟩
theorem c_Quick (N : News h₀ L s.heap news) (hd : dp + 4 < recursionLimit) (hu : un + 40 < cLine) {wk dwk bus lay : Addr} {vw : IV} {t : Tok} (hwk : (wk, instObj 266 dwk) ∈ news) (hdw : (dwk, dictOf (walE vw bus lay) vw.n) ∈ news)
    (ret : ∀ x d dk o v h' tk', Fr h₀ L h' m → News h₀ L h' ((x, instObj 302 d) :: (d, dictOf (quickE v wk lay dk) v.n) :: (dk, o) :: news) → (∀ p ∈ news, p.1 < d) → @LT.lt Nat _ d x → @LT.lt Nat _ x dk → (dk == sysModules) = false → TupD w [] o [] → Q (.ref x) { s with heap := h', toks := tk' }) :
    wpAny (model PySem.Challenge.rw_pf0221_01.prog w) (ktrTop dp un gd cn cs L a ccd cl outer) (call (.ref 302) [.ref wk, .int 5 t]) Q E s := by
  k_extra "cls"
  k_steps
  rename (∀ p : Addr × Obj, p ∈ news → p.1 < _) => la
  refine ret _ _ _ _ ⟨_, _, _, _, 0, 0, _, _, _, _, 0, 0, 0, 0, _, 0, 0, 0, _⟩ _ _ (by k_asm) (news_perm (by k_asm) (by k_extra "stsubD")) la (by omega) (by omega) (by assumption) (tupd_empty (by assumption))
end
theorem newer_fst {nk l l' : List (Addr × Obj)} (h : Newer nk l') (e : ∀ p ∈ l, ∃ q ∈ l', q.1 = p.1) : Newer nk l := fun p hp q hq => by
  obtain ⟨q', a, b⟩ := e q hq
  rw [← b]
  exact h p hp q' a
theorem setup {w : World} {T9 : List (Addr × Obj)} {xW dW xB dB lsB xL dL xM dM wM xQ dQ kQ xT dT xP dP hP fl dd dwd cw : Addr} {vQ : IV} {nf : Nat} {tr : Tok} {owd ocw oh op oQ ow o' : Obj} {fs : List Value} {M : Int → Int}
    (WI : WalIn T9 xW dW xB dB lsB xL dL xM dM wM) (TI : TabIn T9 xT dT xP xL dL xM dM wM) (hdw : WoO w xM xT xW xQ fl dd tr owd) (lo : (wM == sysModules) = false) (lW : (dd == sysModules) = false) (loQ : (kQ == sysModules) = false)
    (a1 : ∀ p ∈ T9, p.1 ≠ wM) (q1 : ∀ p ∈ T9, p.1 < dQ) (q2 : ∀ p ∈ T9, p.1 < fl) (q3 : ∀ p ∈ T9, p.1 < dd)
    (r1 : @LT.lt Nat _ cw wM) (r2 : @LT.lt Nat _ wM dP) (r3 : @LT.lt Nat _ dP hP) (r4 : @LT.lt Nat _ hP dwd) (r5 : @LT.lt Nat _ dwd dQ) (r6 : @LT.lt Nat _ dQ xQ) (r7 : @LT.lt Nat _ xQ kQ) (r8 : @LT.lt Nat _ kQ fl) (r9 : @LT.lt Nat _ fl dd)
    (i : IntD w ow M) (M0 : ∀ x, M x = 0) (fr : FrsL fs fun p => p) (t : TupD w [] oQ []) (tw : TupD w [] o' []) :
    ∃ c : Wa, c.wk = xW ∧ c.dwk = dW ∧ c.bus = xB ∧ c.dbus = dB ∧ c.ls = lsB ∧ c.lay = xL ∧ c.dlay = dL ∧ c.mem = xM ∧ c.dmem = dM ∧ c.dw = wM ∧ c.qi = xQ ∧ c.dqk = dQ ∧ c.tab = xT ∧ c.dtab = dT ∧ c.pgs = xP ∧ c.fl = fl ∧ c.dW = dd ∧ c.wo = dwd ∧ c.v = vQ ∧ c.n = vQ.n ∧ c.nf = nf ∧ c.tr = tr ∧ c.oWo = owd ∧
      Good w c ([(cw, ocw), (dwd, owd), (xQ, instObj 302 dQ)] ++ T9) ∧ Good w c ([(dP, op), (hP, oh)] ++ ([(cw, ocw), (dwd, owd), (xQ, instObj 302 dQ)] ++ T9)) ∧
      Inv w c [] ([(dP, op), (hP, oh)] ++ ([(cw, ocw), (dwd, owd), (xQ, instObj 302 dQ)] ++ T9)) 0 0 (fun p => p) (fun _ _ => 0) kQ oQ ow fs o' M [] [] := by
  have up : ∀ p ∈ T9, p ∈ [(cw, ocw), (dwd, owd), (xQ, instObj 302 dQ)] ++ T9 := fun p hp => List.mem_append_right _ hp
  have ne : ∀ {x y : Nat}, @LT.lt Nat _ x y → @Ne Nat x y := fun h => Nat.ne_of_lt h
  have g : Good w ⟨xW, dW, xB, dB, lsB, xL, dL, xM, dM, wM, xQ, dQ, xT, dT, xP, fl, dd, dwd, vQ, vQ.n, nf, tr, owd⟩ ([(cw, ocw), (dwd, owd), (xQ, instObj 302 dQ)] ++ T9) := by
    refine ⟨WI.mono fun p hp _ => up p hp, TI.mono fun p hp _ => up p hp, by simp, by simp, hdw, lo, lW, ?_, ?_, ?_, ?_, ?_, ?_, ?_, ?_, ?_, ?_⟩
    · exact List.forall_mem_cons.mpr ⟨ne r1, List.forall_mem_cons.mpr ⟨Ne.symm (ne (by dsimp only; omega)), List.forall_mem_cons.mpr ⟨Ne.symm (ne (by dsimp only; omega)), a1⟩⟩⟩
    · exact List.forall_mem_cons.mpr ⟨ne (by dsimp only; omega), List.forall_mem_cons.mpr ⟨ne r5, List.forall_mem_cons.mpr ⟨Ne.symm (ne r6), fun p hp => ne (q1 p hp)⟩⟩⟩
    · exact List.forall_mem_cons.mpr ⟨ne (by dsimp only; omega), List.forall_mem_cons.mpr ⟨ne (by dsimp only; omega), List.forall_mem_cons.mpr ⟨ne (by dsimp only; omega), fun p hp => ne (q2 p hp)⟩⟩⟩
    · exact List.forall_mem_cons.mpr ⟨ne (by dsimp only; omega), List.forall_mem_cons.mpr ⟨ne (by dsimp only; omega), List.forall_mem_cons.mpr ⟨ne (by dsimp only; omega), fun p hp => ne (q3 p hp)⟩⟩⟩
    all_goals (dsimp only; omega)
  have sp : ∀ p ∈ [(dP, op), (hP, oh)] ++ ([(cw, ocw), (dwd, owd), (xQ, instObj 302 dQ)] ++ T9), p ∈ [(cw, ocw), (dwd, owd), (xQ, instObj 302 dQ)] ++ T9 ∨ SepX ⟨xW, dW, xB, dB, lsB, xL, dL, xM, dM, wM, xQ, dQ, xT, dT, xP, fl, dd, dwd, vQ, vQ.n, nf, tr, owd⟩ kQ p := fun p hp => by
    rcases List.mem_append.mp hp with hp | hp
    · simp only [List.mem_cons, List.not_mem_nil, or_false] at hp
      rcases hp with rfl | rfl <;> exact .inr ⟨by dsimp only; omega, by dsimp only; omega, by dsimp only; omega, by dsimp only; omega, by dsimp only; omega⟩
    · exact .inl hp
  have hM : M = fun _ => 0 := funext M0
  have kn : Kn (fun p => p) [] := by intro x hx; cases hx
  have wr : WRel [] (fun _ _ => 0) := ⟨(by intro x hx; cases hx), fun _ _ _ => rfl⟩
  have nz : Num 0 0 M (fun p => p) (fun _ _ => 0) := hM ▸ Num.zero 0
  have sk : ∀ p ∈ [(dP, op), (hP, oh)] ++ ([(cw, ocw), (dwd, owd), (xQ, instObj 302 dQ)] ++ T9), p.1 ≠ kQ :=
    List.forall_mem_cons.mpr ⟨ne (by dsimp only; omega), List.forall_mem_cons.mpr ⟨ne (by dsimp only; omega), List.forall_mem_cons.mpr ⟨ne (by dsimp only; omega), List.forall_mem_cons.mpr ⟨ne (by dsimp only; omega), List.forall_mem_cons.mpr ⟨ne r7, fun p hp => ne (Nat.lt_trans (q1 p hp) (Nat.lt_trans r6 r7))⟩⟩⟩⟩⟩
  have hv : Inv w ⟨xW, dW, xB, dB, lsB, xL, dL, xM, dM, wM, xQ, dQ, xT, dT, xP, fl, dd, dwd, vQ, vQ.n, nf, tr, owd⟩ [] ([(dP, op), (hP, oh)] ++ ([(cw, ocw), (dwd, owd), (xQ, instObj 302 dQ)] ++ T9)) 0 0 (fun p => p) (fun _ _ => 0) kQ oQ ow fs o' M [] [] :=
    Inv.mk i t kn (Nat.zero_le _) loQ sk (by dsimp only; omega) (by dsimp only; omega) (by dsimp only; omega) (by dsimp only; omega) fr tw wr nz (by intro p hp; cases hp)
  exact ⟨⟨xW, dW, xB, dB, lsB, xL, dL, xM, dM, wM, xQ, dQ, xT, dT, xP, fl, dd, dwd, vQ, vQ.n, nf, tr, owd⟩, rfl, rfl, rfl, rfl, rfl, rfl, rfl, rfl, rfl, rfl, rfl, rfl, rfl, rfl, rfl, rfl, rfl, rfl, rfl, rfl, rfl, rfl, rfl, g, g.to (fun p hp => List.mem_append_right _ hp) sp, hv⟩
theorem PgOk.turn {w : World} {c : Wa} {K T1 own nk : List (Addr × Obj)} {k q : Int} {fr : Int → Int} {wd : Int → Int → Int} {dk : Addr} {ok ow : Obj} {vs : List Value} {oW : Obj} {M : Int → Int} {xs ws : Xs} {mem dmem pgs dP gl hP : Addr} {v : PV} {oa ob o1 o2 o3 o4 : Obj}
    (P : PgOk w T1 mem dmem c.dw pgs dP gl hP v) (g : Good w c (own ++ (nk ++ ([(dP, oa), (hP, ob)] ++ T1)))) (hv : Inv w c K (own ++ (nk ++ ([(dP, oa), (hP, ob)] ++ T1))) k q fr wd dk ok ow vs oW M xs ws) (nw : Newer nk ([(dP, oa), (hP, ob)] ++ T1)) (ho : ∀ p ∈ own, ∀ q ∈ [(dP, oa), (hP, ob)], p.1 ≠ q.1) :
    PgOk w ((c.dqk, o1) :: (dk, o2) :: (c.fl, o3) :: (c.dW, o4) :: (own ++ (nk ++ T1))) mem dmem c.dw pgs dP gl hP v := by
  have w1 : (dP, oa) ∈ own ++ (nk ++ ([(dP, oa), (hP, ob)] ++ T1)) := List.mem_append_right _ (List.mem_append_right _ List.mem_cons_self)
  have w2 : (hP, ob) ∈ own ++ (nk ++ ([(dP, oa), (hP, ob)] ++ T1)) := List.mem_append_right _ (List.mem_append_right _ (List.mem_cons_of_mem _ List.mem_cons_self))
  have up : ∀ p ∈ T1, p ∈ (c.dqk, o1) :: (dk, o2) :: (c.fl, o3) :: (c.dW, o4) :: (own ++ (nk ++ T1)) := fun p hp => by
    simp only [List.mem_cons, List.mem_append]
    exact .inr (.inr (.inr (.inr (.inr (.inr hp)))))
  have sb : ∀ p ∈ own ++ (nk ++ T1), p ∈ own ++ (nk ++ ([(dP, oa), (hP, ob)] ++ T1)) := fun p hp => by
    rcases List.mem_append.mp hp with hp | hp
    · exact List.mem_append_left _ hp
    · rcases List.mem_append.mp hp with hp | hp
      · exact List.mem_append_right _ (List.mem_append_left _ hp)
      · exact List.mem_append_right _ (List.mem_append_right _ (List.mem_append_right _ hp))
  refine ⟨P.M.mono fun p hp _ => up p hp, up _ P.pg, up _ P.gl, ?_, ?_, ?_, P.n1, P.n2, P.n3, P.lo, P.lh⟩
  · exact List.forall_mem_cons.mpr ⟨Ne.symm g.n1, List.forall_mem_cons.mpr ⟨Ne.symm hv.n1, List.forall_mem_cons.mpr ⟨Ne.symm g.n2, List.forall_mem_cons.mpr ⟨Ne.symm g.n3, fun p hp => g.s1 p (sb p hp)⟩⟩⟩⟩
  · refine List.forall_mem_cons.mpr ⟨Ne.symm (g.s2 _ w1), List.forall_mem_cons.mpr ⟨Ne.symm (hv.s _ w1), List.forall_mem_cons.mpr ⟨Ne.symm (g.s3 _ w1), List.forall_mem_cons.mpr ⟨Ne.symm (g.s4 _ w1), fun p hp => ?_⟩⟩⟩⟩
    rcases List.mem_append.mp hp with hp | hp
    · exact ho p hp (dP, oa) List.mem_cons_self
    · rcases List.mem_append.mp hp with hp | hp
      · exact Nat.ne_of_gt (nw p hp (dP, oa) List.mem_cons_self)
      · exact P.s2 p hp
  · refine List.forall_mem_cons.mpr ⟨Ne.symm (g.s2 _ w2), List.forall_mem_cons.mpr ⟨Ne.symm (hv.s _ w2), List.forall_mem_cons.mpr ⟨Ne.symm (g.s3 _ w2), List.forall_mem_cons.mpr ⟨Ne.symm (g.s4 _ w2), fun p hp => ?_⟩⟩⟩⟩
    rcases List.mem_append.mp hp with hp | hp
    · exact ho p hp (hP, ob) (List.mem_cons_of_mem _ List.mem_cons_self)
    · rcases List.mem_append.mp hp with hp | hp
      · exact Nat.ne_of_gt (nw p hp (hP, ob) (List.mem_cons_of_mem _ List.mem_cons_self))
      · exact P.s3 p hp
/-- after a page is mapped -/
theorem St.mapped {w : World} {c : Wa} {K T1 own nk : List (Addr × Obj)} {k q : Int} {fr : Int → Int} {wd : Int → Int → Int} {dk : Addr} {ok ow ow' : Obj} {vs : List Value} {oW : Obj} {M M' : Int → Int} {xs ws : Xs} {dP hP : Addr} {oa ob oa' ob' : Obj}
    (g0 : Good w c T1) (hK : ∀ p ∈ K, p ∈ nk ++ T1) (g : Good w c (own ++ (nk ++ ([(dP, oa), (hP, ob)] ++ T1)))) (hv : Inv w c K (own ++ (nk ++ ([(dP, oa), (hP, ob)] ++ T1))) k q fr wd dk ok ow vs oW M xs ws)
    (di : IntD w ow' M') (k0 : 0 ≤ k) (k8 : k < 8) (mx : ∀ x, x ≠ 244 + k → x ≠ 240 + k / 4 → M' x = M x) (me : IsE (M' (244 + k)) (fr k)) (mr : M' (240 + k / 4) = 1024 * (61 + k / 4) + 1) :
    Good w c (own ++ (nk ++ ([(dP, oa'), (hP, ob')] ++ T1))) ∧ Inv w c K (own ++ (nk ++ ([(dP, oa'), (hP, ob')] ++ T1))) (k + 1) q fr wd dk ok ow' vs oW M' xs ws := by
  have w1 : (dP, oa) ∈ own ++ (nk ++ ([(dP, oa), (hP, ob)] ++ T1)) := List.mem_append_right _ (List.mem_append_right _ List.mem_cons_self)
  have w2 : (hP, ob) ∈ own ++ (nk ++ ([(dP, oa), (hP, ob)] ++ T1)) := List.mem_append_right _ (List.mem_append_right _ (List.mem_cons_of_mem _ List.mem_cons_self))
  have same : ∀ p ∈ own ++ (nk ++ ([(dP, oa'), (hP, ob')] ++ T1)), ∃ o, (p.1, o) ∈ own ++ (nk ++ ([(dP, oa), (hP, ob)] ++ T1)) := fun p hp => by
    rcases List.mem_append.mp hp with hp | hp
    · exact ⟨p.2, List.mem_append_left _ hp⟩
    · rcases List.mem_append.mp hp with hp | hp
      · exact ⟨p.2, List.mem_append_right _ (List.mem_append_left _ hp)⟩
      · rcases List.mem_append.mp hp with hp | hp
        · simp only [List.mem_cons, List.not_mem_nil, or_false] at hp
          rcases hp with rfl | rfl
          · exact ⟨_, w1⟩
          · exact ⟨_, w2⟩
        · exact ⟨p.2, List.mem_append_right _ (List.mem_append_right _ (List.mem_append_right _ hp))⟩
  have sp : ∀ p ∈ own ++ (nk ++ ([(dP, oa'), (hP, ob')] ++ T1)), SepX c dk p := fun p hp => by
    obtain ⟨o, ho⟩ := same p hp
    exact ⟨g.s1 (p.1, o) ho, g.s2 (p.1, o) ho, g.s3 (p.1, o) ho, g.s4 (p.1, o) ho, hv.s (p.1, o) ho⟩
  refine ⟨g0.to (dk := dk) (fun p hp => List.mem_append_right _ (List.mem_append_right _ (List.mem_append_right _ hp))) fun p hp => .inr (sp p hp), ?_⟩
  have h2 := hv.to (T2 := own ++ (nk ++ ([(dP, oa'), (hP, ob')] ++ T1))) (fun p hp => by
    rcases List.mem_append.mp (hK p hp) with hp | hp
    · exact List.mem_append_right _ (List.mem_append_left _ hp)
    · exact List.mem_append_right _ (List.mem_append_right _ (List.mem_append_right _ hp))) fun p hp => .inr (sp p hp)
  exact ⟨di, h2.t, h2.n, h2.z, h2.lo2, h2.s, h2.n1, h2.n2, h2.n3, h2.n4, h2.f, h2.tw, h2.r, hv.u.map k0 k8 mx me mr, h2.b⟩
theorem LP_sub {c : Wa} {own nk T1 : List (Addr × Obj)} {ow oh ok oW : Obj} {dk dP hP mem gl : Addr} {vs : List Value} {v : PV} {n : Int} {u : Nat} : ∀ p ∈ LP c.dw dP hP ow oh mem gl v n u ((c.dqk, dictOf (quickE c.v c.wk c.lay dk) c.n) :: (dk, ok) :: (c.fl, listOf vs.toArray c.nf) :: (c.dW, oW) :: (own ++ (nk ++ T1))), p ∈ LD c ow dk ok vs oW (own ++ (nk ++ ([(dP, dictOf (pgE v mem gl hP n u) v.n), (hP, oh)] ++ T1))) := by
  intro p hp
  simp only [LP, LD, List.mem_cons, List.mem_append, List.not_mem_nil, or_false] at hp ⊢
  grind
theorem LD_sub {c : Wa} {own nk T1 : List (Addr × Obj)} {ow oh ok oW : Obj} {dk dP hP mem gl : Addr} {vs : List Value} {v : PV} {n : Int} {u : Nat} : ∀ p ∈ LD c ow dk ok vs oW (own ++ (nk ++ ([(dP, dictOf (pgE v mem gl hP n u) v.n), (hP, oh)] ++ T1))), p ∈ LP c.dw dP hP ow oh mem gl v n u ((c.dqk, dictOf (quickE c.v c.wk c.lay dk) c.n) :: (dk, ok) :: (c.fl, listOf vs.toArray c.nf) :: (c.dW, oW) :: (own ++ (nk ++ T1))) := by
  intro p hp
  simp only [LP, LD, List.mem_cons, List.mem_append, List.not_mem_nil, or_false] at hp ⊢
  grind
theorem mem_LD {c : Wa} {T : List (Addr × Obj)} {ow ok oW : Obj} {dk : Addr} {vs : List Value} {p : Addr × Obj} (h : p ∈ T) : p ∈ LD c ow dk ok vs oW T := by
  simp only [LD, List.mem_cons]; exact .inr (.inr (.inr (.inr (.inr h))))
theorem updF_LD {w : World} {c : Wa} {K T : List (Addr × Obj)} {k q : Int} {fr : Int → Int} {wd : Int → Int → Int} {dk : Addr} {ok ow : Obj} {vs : List Value} {oW : Obj} {M : Int → Int} {xs ws : Xs} (g : Good w c T) (hv : Inv w c K T k q fr wd dk ok ow vs oW M xs ws) : UpdF c.dw ow (LD c ow dk ok vs oW T) (fun o => LD c o dk ok vs oW T) :=
  .head (List.forall_mem_cons.mpr ⟨Ne.symm g.n1, List.forall_mem_cons.mpr ⟨Ne.symm hv.n1, List.forall_mem_cons.mpr ⟨Ne.symm g.n2, List.forall_mem_cons.mpr ⟨Ne.symm g.n3, g.s1⟩⟩⟩⟩)
noncomputable def forB : Stmt → List Stmt | .For (body := b) .. => b | _ => []
noncomputable def lawB (i : Nat) : List Stmt := forB (pick (fnB (at1 55)) i)
noncomputable abbrev lawE (L fa : Addr) (cdv : Value) : Env := envOfC (Str.ofString "law") (fnS (at1 55)) L fa cdv
theorem u_kv2 : True := by (k_with "kv" => first | with_reducible assumption | exact Or.inl rfl); trivial
theorem u_stop370 : True := by (k_with "ctr" => ((with_reducible show wpAny _ _ (call (Value.ref 370) _) _ _ _); refine dcq_stop ?_)); trivial
section
variable {w : World} {p : Program} {loose : List Str} {mean : ExcName → Option Value} {mg mb : Str → Option Value} {base h₀ : Heap} {L fa : Addr} {cdv : Value} {m₀ : Str → Option Value} {s : Shared} {Q : Flow → Shared → Prop} {E : Value → Shared → Prop} {T1 : List (Addr × Obj)} {c : Wa} {own nk : List (Addr × Obj)} {wd : Int → Int → Int} {dP gP hP : Addr} {vP : PV} {u9 : Nat} {oh9 ocw : Obj} {i : Nat} {t8 : Tok}
theorem law_turn1 (B : Below callerA base [] h₀) (F : Fr h₀ L s.heap (fun y => if y = Str.ofString "page" then some (.int (0 + (i : Int)) t8) else if y = Str.ofString "table" then some (.ref c.tab) else m₀ y)) (X : (Mine.K w.params).In h₀) (T0 : Top p loose mean mg mb h₀)
    (g0 : Good w c T1) (PO1 : PgOk w T1 c.mem c.dmem c.dw c.pgs dP gP hP vP) (k1 : (L + 1 + 1, ocw) ∈ T1) (dcw : ocw.data = .cell (some (.ref c.wo))) (i8 : i < 8) (nw : Newer nk ([(dP, dictOf (pgE vP c.mem gP hP (1 + ((i : Int) + 3) / 4) u9) vP.n), (hP, oh9)] ++ T1)) (ho9 : ∀ p ∈ own, ∀ q ∈ [(dP, dictOf (pgE vP c.mem gP hP (1 + ((i : Int) + 3) / 4) u9) vP.n), (hP, oh9)], p.1 ≠ q.1) (hh9 : HeldD w oh9 (1 + (i + 3) / 4))
    (S9 : St w c (nk ++ []) (own ++ (nk ++ ([(dP, dictOf (pgE vP c.mem gP hP (1 + ((i : Int) + 3) / 4) u9) vP.n), (hP, oh9)] ++ T1))) (i : Int) 0 (fun p => p) wd h₀ L s.heap)
    (ret : ∀ nk2 u' oh' wd' h' tk', Newer nk2 (own ++ (nk ++ ([(dP, dictOf (pgE vP c.mem gP hP (1 + (((i + 1 : Nat) : Int) + 3) / 4) u') vP.n), (hP, oh')] ++ T1))) → HeldD w oh' (1 + (i + 1 + 3) / 4) →
      St w c (nk2 ++ (nk ++ [])) (nk2 ++ (own ++ (nk ++ ([(dP, dictOf (pgE vP c.mem gP hP (1 + (((i + 1 : Nat) : Int) + 3) / 4) u') vP.n), (hP, oh')] ++ T1)))) ((i + 1 : Nat) : Int) 0 (fun p => p) wd' h₀ L h' →
      Fr h₀ L h' (fun y => if y = Str.ofString "page" then some (.int (0 + (i : Int)) t8) else if y = Str.ofString "table" then some (.ref c.tab) else m₀ y) → Q .next { s with heap := h', toks := tk' }) :
    wpAny (model PySem.Challenge.rw_pf0221_01.prog w) (callerA.deeper (lawE L fa cdv)) (execs (lawB 5) (lawE L fa cdv)) Q E s := by
  obtain ⟨ow9, dk9, ok9, vs9, oW9, M9, xs9, ws9, g9, v9, N9⟩ := S9
  dsimp only [LD] at N9
  have e1 := List.mem_append_right own (List.mem_append_right nk (List.mem_append_right [(dP, dictOf (pgE vP c.mem gP hP (1 + ((i : Int) + 3) / 4) u9) vP.n), (hP, oh9)] k1))
  have hwo9 := g9.Wo
  obtain ⟨vT9, mt1, mt2, _⟩ := id g9.Tb
  have hw9 := g9.wo
  unfold WoO at hw9
  k_steps
  have iK : ∀ p ∈ nk ++ [], p ∈ nk ++ T1 := fun p hp => by rw [List.append_nil] at hp; exact List.mem_append_left _ hp
  by_cases hi4 : i % 4 = 0
  · unfold DcQ
    refine c_mapn (by k_asm) (by k_asm) (by k_asm) (by k_asm) (by k_extra "base") (PgOk.turn PO1 g9 v9 nw ho9) (g0.Tb.mono fun p hp _ => List.mem_cons_of_mem _ (List.mem_cons_of_mem _ (List.mem_cons_of_mem _ (List.mem_cons_of_mem _ (List.mem_append_right _ (List.mem_append_right _ hp)))))) (i := 16 * (0 + (i : Int))) (x := 0 + (i : Int)) (news_perm (by k_asm) LP_sub) (by ktr_room) (by ktr_units) v9.i hh9 (by omega) (by omega) (by omega) (by omega) (by omega) ?h1 ?h2 (by omega) (by omega) ?ret
    case h1 =>
      rw [show 240 + 16 * (0 + (i : Int)) / 64 = 240 + (i : Int) / 4 by omega]
      have : (i : Int) / 4 = 0 ∨ (i : Int) / 4 = 1 := by omega
      rcases this with e | e
      · rw [e]; exact v9.u.y0 (by omega)
      · rw [e]; exact v9.u.y1 (by omega)
    case h2 => rw [show 244 + 16 * (0 + (i : Int)) / 16 = 244 + (i : Int) by omega]; exact v9.u.z _ (by omega) (by omega) (by omega)
    case ret =>
      intro ow1' M1' u1' oh1' h' tk' F' N' d1' hh1' mxa mza mea me
      rw [show 244 + 16 * (0 + (i : Int)) / 16 = 244 + (i : Int) by omega] at mza me
      rw [show 240 + 16 * (0 + (i : Int)) / 64 = 240 + (i : Int) / 4 by omega, show 16 * (0 + (i : Int)) / 64 = (i : Int) / 4 by omega] at mea
      obtain ⟨g8, v8⟩ := St.mapped (oa' := dictOf (pgE vP c.mem gP hP (1 + ((i : Int) + 3) / 4 + 1) u1') vP.n) (ob' := oh1') g0 iK g9 v9 d1' (by omega) (by omega) (fun x hx hy => by
        by_cases e : x < 240 + 4 * (1 + ((i : Int) + 3) / 4) ∨ 240 + 4 * (1 + ((i : Int) + 3) / 4) + 4 ≤ x
        · exact mxa x e (by omega)
        · rw [mza x (by omega) (by omega) hx]
          have := v9.u.z (x - 244) (by omega) (by omega) (by omega)
          rw [show 244 + (x - 244) = x by omega] at this
          exact this.symm) (by rw [show (0 : Int) + (i : Int) = (i : Int) by omega] at me; exact me) mea
      have N8 := news_perm N' LD_sub
      dsimp only [LD] at N8
      clear N' N9 g9 v9 mxa mza mea me d1'
      have hwo9 := g8.Wo
      (k_with "ctr" => ((with_reducible show wpAny _ _ (call (Value.ref 888) _) _ _ _); refine dcq_stop ?_))
      k_steps
      unfold DcQ
      k_dflt (refine c_store (by k_asm) (by k_asm) (by k_asm) (by k_asm) (by k_extra "base") (by k_extra "st") (by ktr_room) (by ktr_units) (by first | assumption | omega) (by k_extra "kv") (by omega) (by omega) (by omega) (by omega) ?_)
      intro nk9 h' tk' nw9 S9 F'
      have eN : 1 + ((i : Int) + 3) / 4 + 1 = 1 + (((i + 1 : Nat) : Int) + 3) / 4 := by omega
      rw [eN] at nw9 S9
      k_steps
      exact ret _ _ _ _ _ _ nw9 (by rw [show 1 + (i + 1 + 3) / 4 = 1 + (i + 3) / 4 + 1 by omega]; exact hh1') S9 (by k_asm)
  · unfold DcQ
    refine c_map (by k_asm) (by k_asm) (by k_asm) (by k_asm) (by k_extra "base") (news := LD c ow9 dk9 ok9 vs9 oW9 (own ++ (nk ++ ([(dP, dictOf (pgE vP c.mem gP hP (1 + ((i : Int) + 3) / 4) u9) vP.n), (hP, oh9)] ++ T1)))) (by k_asm) (by ktr_room) (by ktr_units) (g9.Tb.mono fun p hp _ => mem_LD hp) v9.i g9.lo (updF_LD g9 v9) (i := 16 * (0 + (i : Int))) (x := 0 + (i : Int)) (by omega) (by omega) (by omega) ?h1 ?h2 (by omega) (by omega) ?ret
    case h1 =>
      rw [show 16 * (0 + (i : Int)) / 64 = ((i : Int) - 1) / 4 by omega]
      exact v9.u.lk1 (by omega) (by omega) (by omega)
    case h2 => rw [show 244 + 16 * (0 + (i : Int)) / 16 = 244 + (i : Int) by omega]; exact v9.u.z _ (by omega) (by omega) (by omega)
    case ret =>
      intro ow1' M1' h' tk' F' N' d1' mxa me
      rw [show 244 + 16 * (0 + (i : Int)) / 16 = 244 + (i : Int) by omega] at mxa me
      have mea : M1' (240 + (i : Int) / 4) = 1024 * (61 + (i : Int) / 4) + 1 := by
        rw [mxa _ (by omega), show (i : Int) / 4 = ((i : Int) - 1) / 4 by omega]
        exact v9.u.lk1 (by omega) (by omega) (by omega)
      obtain ⟨g8, v8⟩ := St.mapped (oa' := dictOf (pgE vP c.mem gP hP (1 + ((i : Int) + 3) / 4) u9) vP.n) (ob' := oh9) g0 iK g9 v9 d1' (by omega) (by omega) (fun x hx hy => mxa x hx) (by rw [show (0 : Int) + (i : Int) = (i : Int) by omega] at me; exact me) mea
      have N8 : News h₀ L h' (LD c ow1' dk9 ok9 vs9 oW9 (own ++ (nk ++ ([(dP, dictOf (pgE vP c.mem gP hP (1 + ((i : Int) + 3) / 4) u9) vP.n), (hP, oh9)] ++ T1)))) := N'
      dsimp only [LD] at N8
      clear N' N9 g9 v9 mxa mea me d1'
      have hwo9 := g8.Wo
      (k_with "ctr" => ((with_reducible show wpAny _ _ (call (Value.ref 888) _) _ _ _); refine dcq_stop ?_))
      k_steps
      unfold DcQ
      k_dflt (refine c_store (by k_asm) (by k_asm) (by k_asm) (by k_asm) (by k_extra "base") (by k_extra "st") (by ktr_room) (by ktr_units) (by first | assumption | omega) (by k_extra "kv") (by omega) (by omega) (by omega) (by omega) ?_)
      intro nk9 h' tk' nw9 S9 F'
      have eN : 1 + ((i : Int) + 3) / 4 = 1 + (((i + 1 : Nat) : Int) + 3) / 4 := by omega
      rw [eN] at nw9 S9
      k_steps
      exact ret _ _ _ _ _ _ nw9 (by rw [show 1 + (i + 1 + 3) / 4 = 1 + (i + 3) / 4 by omega]; exact hh9) S9 (by k_asm)
end
theorem u_for2 : True := by (k_with "for" => ((rename Fr _ _ _ _ => lF'); with_unfolding_all refine' for_S lF' ?k1 ?k2 ?_ ?k3 ?k4; (case k1 => exact rfl); (case k2 => exact rfl); (case k3 => intro _; rfl); (case k4 => assumption); k_whole)); trivial
section
variable {w : World} {p : Program} {loose : List Str} {mean : ExcName → Option Value} {mg mb : Str → Option Value} {base h₀ : Heap} {L fa : Addr} {cdv : Value} {m₀ : Str → Option Value} {s : Shared} {Q : Flow → Shared → Prop} {E : Value → Shared → Prop} {K T : List (Addr × Obj)} {c : Wa} {q : Int} {fr : Int → Int} {wd : Int → Int → Int} {ocw : Obj} {x : Int} {t8 : Tok}
theorem law_turn2 (B : Below callerA base [] h₀) (F : Fr h₀ L s.heap (fun y => if y = Str.ofString "n" then some (.int x t8) else m₀ y)) (X : (Mine.K w.params).In h₀) (T0 : Top p loose mean mg mb h₀)
    (k1 : (L + 1 + 1, ocw) ∈ T) (dcw : ocw.data = .cell (some (.ref c.wo))) (x0 : 0 ≤ x) (x9 : x < 1000000000) (hE : PassesOwn (model PySem.Challenge.rw_pf0221_01.prog w) (callerA.deeper (lawE L fa cdv)) (lawE L fa cdv) E) (S : St w c K T 8 q fr wd h₀ L s.heap)
    (ret : ∀ nk fr' wd' u h' tk', Newer nk T → St w c (nk ++ K) (nk ++ T) 8 q fr' wd' h₀ L h' → Fr h₀ L h' (fun y => if y = Str.ofString "page" then u else if y = Str.ofString "n" then some (.int x t8) else m₀ y) → Q .next { s with heap := h', toks := tk' }) :
    wpAny (model PySem.Challenge.rw_pf0221_01.prog w) (callerA.deeper (lawE L fa cdv)) (execs (lawB 7) (lawE L fa cdv)) Q E s := by
  obtain ⟨ow9, dk9, ok9, vs9, oW9, M9, xs9, ws9, g9, v9, N9⟩ := S
  dsimp only [LD] at N9
  have hwo9 := g9.Wo
  have gT := g9
  have hKT := v9.b
  (k_with "ctr" => ((with_reducible show wpAny _ _ (call (Value.ref 902) _) _ _ _); refine dcq_stop ?_))
  k_steps
  unfold DcQ
  k_dflt (refine c_deed (by k_asm) (by k_asm) (by k_asm) (by k_asm) (by k_extra "base") (by k_extra "st") (by ktr_room) (by ktr_units) (by omega) (by omega) ?_)
  intro nk9 fr9 wd9 h' tk' nw9 S9 F'
  clear N9 g9 v9 hwo9
  obtain ⟨ow9, dk9, ok9, vs9, oW9, M9, xs9, ws9, g9, v9, N9⟩ := S9
  dsimp only [LD] at N9
  have hwo9 := g9.Wo
  have k1' := List.mem_append_right nk9 k1
  k_steps
  rename_i l' h2 F2 N2 l1
  unfold DcQ
  obtain ⟨b1, b2, b3, b4, b5, b6⟩ := l1
  have l6 := of_allLt b6
  generalize hoL : listOf _ 0 = oL at N2
  have sp : ∀ p ∈ (l', oL) :: (nk9 ++ T), p ∈ nk9 ++ T ∨ SepX c dk9 p := fun p hp => by
    rcases List.mem_cons.mp hp with rfl | hp
    · exact .inr ⟨Nat.ne_of_gt b1, Nat.ne_of_gt b2, Nat.ne_of_gt b4, Nat.ne_of_gt b5, Nat.ne_of_gt b3⟩
    · exact .inl hp
  have gA : Good w c ((l', oL) :: (nk9 ++ T)) := g9.to (fun p hp => List.mem_cons_of_mem _ hp) sp
  have vA : Inv w c (nk9 ++ K) ((l', oL) :: (nk9 ++ T)) 8 q fr9 wd9 dk9 ok9 ow9 vs9 oW9 M9 xs9 ws9 := v9.to (fun p hp => List.mem_cons_of_mem _ (v9.b p hp)) sp
  refine iter_listS (ys := [_, _]) (K := nk9 ++ K) (T1 := (l', oL) :: (nk9 ++ T)) [Str.ofString "page"] (fun _ k' q' fr' wd' => k' = 8 ∧ q' = q ∧ fr' = fr9 ∧ wd' = wd9) (by rfl) List.mem_cons_self (by rw [← hoL]) (by rw [← hoL]) F2 gA vA (news_perm N2 (by k_extra "stsub")) ⟨rfl, rfl, rfl, rfl⟩ ?turn ?done
  case turn =>
    clear F2 N2 gA vA g9 v9
    intro i v m₁ h tk nk own k' q' fr' wd' hi hv hm hz nw F3 S3
    obtain ⟨rfl, rfl, rfl, rfl⟩ := hz
    obtain ⟨u, rfl⟩ := hm.one
    obtain ⟨pg, tp, rfl, pg0, pg8⟩ : ∃ pg tp, v = .int pg tp ∧ 0 ≤ pg ∧ pg < 8 := by
      have hi2 : i = 0 ∨ i = 1 := by have hi3 : i < 2 := hi; omega
      rcases hi2 with rfl | rfl
      · exact ⟨_, _, (Option.some.inj hv).symm, by omega, by omega⟩
      · exact ⟨_, _, (Option.some.inj hv).symm, by omega, by omega⟩
    clear hv
    obtain ⟨ow9, dk9, ok9, vs9, oW9, M9, xs9, ws9, g9, v9, N9⟩ := S3
    dsimp only [LD] at N9
    have hwo9 := g9.Wo
    have k2 := List.mem_append_right own (List.mem_append_right nk (List.mem_cons_of_mem (l', oL) k1'))
    (k_with "ctr" => ((with_reducible show wpAny _ _ (call (Value.ref 907) _) _ _ _); refine dcq_stop ?_))
    k_steps
    unfold DcQ
    k_dflt (refine c_right (by k_asm) (by k_asm) (by k_asm) (by k_asm) (by k_extra "base") (by k_extra "st") (by ktr_room) (by ktr_units) (by omega) (by exact Or.inl rfl) (by omega) (by omega) ?_)
    intro nk10 h10 tk10 nw10 S10 F10
    clear N9 g9 v9 hwo9
    obtain ⟨ow9, dk9, ok9, vs9, oW9, M9, xs9, ws9, g9, v9, N9⟩ := S10
    dsimp only [LD] at N9
    have hwo9 := g9.Wo
    have k3 := List.mem_append_right nk10 k2
    k_steps
    unfold DcQ
    k_dflt (refine c_right (by k_asm) (by k_asm) (by k_asm) (by k_asm) (by k_extra "base") (by k_extra "st") (by ktr_room) (by ktr_units) (by omega) (by exact Or.inl rfl) (by omega) (by omega) ?_)
    intro nk11 h11 tk11 nw11 S11 F11
    k_steps
    refine ⟨.inl rfl, nk11 ++ nk10, _, _, _, _, _, _, _, rfl, ?keeps, ⟨rfl, rfl, rfl, rfl⟩, Newer.trans nw10 nw11, ?S, F11⟩
    case S => rw [List.append_assoc, List.append_assoc]; exact S11
    case keeps =>
      intro z hz
      simp only [List.mem_cons, List.not_mem_nil, or_false] at hz
      simp only [hz, if_false]
  case done =>
    intro h tk m₁ nk k' q' fr' wd' hm hz nw S3 F3
    obtain ⟨rfl, rfl, rfl, rfl⟩ := hz
    obtain ⟨u, rfl⟩ := hm.one
    k_steps
    refine ret (nk ++ nk9) fr' wd' u _ _ (Newer.trans nw9 (Newer.sub nw fun p hp => List.mem_cons_of_mem _ hp)) ?_ F3
    rw [← List.append_assoc] at S3
    refine S3.drop gT (fun p hp => List.mem_append_right _ hp) (fun p hp => ?_) fun p hp => ?_
    · rcases List.mem_append.mp hp with hp | hp
      · exact List.mem_append_left _ hp
      · exact List.mem_append_right _ (hKT p hp)
    · rw [List.append_assoc] at hp
      rcases List.mem_append.mp hp with hp | hp
      · exact List.mem_append_left _ hp
      · exact List.mem_append_right _ (List.mem_cons_of_mem _ hp)
end
local macro_rules | `(tactic| omega) => `(tactic| omega (config := {}))
theorem u_lcd : True := by (k_with "lce" => (have zz9 := Inv.b (by assumption); clear zz9; k_dflt (refine lcd_eval (zzF0 := by k_asm) (by with_unfolding_all rfl) (by decide) (by rfl) (by decide) (by rfl) ?_))); trivial
theorem u_lcda : True := by (k_with "lca" => (have zz9 := Inv.b (by assumption); clear zz9; k_dflt (refine lcd_assign (zzF0 := by k_asm) (by rfl) (by with_unfolding_all rfl) (by with_unfolding_all rfl) (by decide) (by rfl) (by decide) (by rfl) (by rfl) (by rfl) ?_))); trivial
noncomputable def lawT (i : Nat) : List Stmt := (fnB (at1 55)).drop i
section
variable {w : World} {p : Program} {loose : List Str} {mean : ExcName → Option Value} {mg mb : Str → Option Value} {base h₀ : Heap} {L fa : Addr} {cdv : Value} {m₀ : Str → Option Value} {s : Shared} {Q : Flow → Shared → Prop} {E : Value → Shared → Prop} {K T : List (Addr × Obj)} {c : Wa} {q : Int} {fr : Int → Int} {wd : Int → Int → Int} {ocw ocm : Obj} {x : Int} {t8 : Tok}
theorem law_turn3 (B : Below callerA base [] h₀) (F : Fr h₀ L s.heap (fun y => if y = Str.ofString "page" then some (.int x t8) else m₀ y)) (X : (Mine.K w.params).In h₀) (T0 : Top p loose mean mg mb h₀)
    (k1 : (L + 1 + 1, ocw) ∈ T) (dcw : ocw.data = .cell (some (.ref c.wo))) (x0 : 0 ≤ x) (x8 : x < 8) (S : St w c K T 8 q fr wd h₀ L s.heap)
    (ret : ∀ nk h' tk', Newer nk T → St w c (nk ++ K) (nk ++ T) 8 q fr wd h₀ L h' → Fr h₀ L h' (fun y => if y = Str.ofString "page" then some (.int x t8) else m₀ y) → Q .next { s with heap := h', toks := tk' }) :
    wpAny (model PySem.Challenge.rw_pf0221_01.prog w) (callerA.deeper (lawE L fa cdv)) (execs (lawB 9) (lawE L fa cdv)) Q E s := by
  obtain ⟨ow9, dk9, ok9, vs9, oW9, M9, xs9, ws9, g9, v9, N9⟩ := S
  dsimp only [LD] at N9
  have hwo9 := g9.Wo
  (k_with "ctr" => ((with_reducible show wpAny _ _ (call (Value.ref 907) _) _ _ _); refine dcq_stop ?_))
  k_steps
  unfold DcQ
  k_dflt (refine c_right (by k_asm) (by k_asm) (by k_asm) (by k_asm) (by k_extra "base") (by k_extra "st") (by ktr_room) (by ktr_units) (by omega) (by exact Or.inl rfl) (by omega) (by omega) ?_)
  intro nk11 h11 tk11 nw11 S11 F11
  k_steps
  exact ret _ _ _ nw11 S11 F11
theorem law_t11 {D8 : Addr} {ys : List Value} (B : Below callerA base [] h₀) (F : Fr h₀ L s.heap (fun y => if y = Str.ofString "due" then some (.ref D8) else m₀ y)) (X : (Mine.K w.params).In h₀) (T0 : Top p loose mean mg mb h₀)
    (kM : (L + 1, ocm) ∈ T) (dcm : ocm.data = .cell (some (.ref c.mem))) (kD : (D8, LCg.lst ys) ∈ T) (hy : IntsAre ys ((List.range 32).map fun i : Nat => wd ((0 + (i : Int) * 4) / 16) ((0 + (i : Int) * 4) % 16 / 4)))
    (S : St w c K T 8 4294967291 fr wd h₀ L s.heap)
    (ret : ∀ h' tk' m', Fr h₀ L h' m' → Q (.ret (.bool true)) { s with heap := h', toks := tk' }) :
    wpAny (model PySem.Challenge.rw_pf0221_01.prog w) (callerA.deeper (lawE L fa cdv)) (execs (lawT 11) (lawE L fa cdv)) Q E s := by
  obtain ⟨ow9, dk9, ok9, vs9, oW9, M9, xs9, ws9, g9, v9, N9⟩ := S
  dsimp only [LD] at N9
  k_steps
  rename_i N1 hh3 tk3 ru1 ru2 ru3 rR rF rN rE
  clear N1 rE
  unfold DcQ
  refine ⟨_, _, _, _, _, _, _, 32, _, rfl, by rfl, rF, news_perm (l' := LD c ow9 dk9 ok9 vs9 oW9 ([] ++ T)) rN (by k_extra "stsub"), rR, by decide, by rfl, by size_fits, fun s₂ hs₂ => ?_⟩
  obtain ⟨hx2, rfl⟩ := hs₂
  refine rest_loop (K := K) (T1 := T) (k := 8) (q := 4294967291) (fr := fr) (wd := wd) (fun i : Nat => wd ((0 + (i : Int) * 4) / 16) ((0 + (i : Int) * 4) % 16 / 4)) 32 ?turn ?fin 32 0 [] [] ow9 dk9 ok9 vs9 oW9 M9 xs9 ws9 rfl .nil Newer.nil g9 v9
  case turn =>
    clear g9 v9 rF rN rR
    intro i ys2 v9 I oI C oC D m₂ h tk E' nk2 i4 hP hC hx F' nw2 S9
    obtain ⟨t8, rfl⟩ := hP
    obtain ⟨ow9, dk9, ok9, vs9, oW9, M9, xs9, ws9, g9, v9, N9⟩ := S9
    dsimp only [LD] at N9
    have e1 := List.mem_append_right nk2 kM
    have mi9 := g9.mem
    obtain ⟨vm9, mm19, mm29, mm39, mm49⟩ := id mi9
    have di9 := v9.i
    have lo9 := g9.lo
    have lk1 := v9.u.wd ((0 + (i : Int) * 4) / 16) ((0 + (i : Int) * 4) % 16 / 4) (by omega) (by omega) (by omega) (by omega)
    k_steps
    exact ⟨[], _, _, _, rfl, rfl, Newer.nil, St.mk g9 v9 (by k_asm) (by k_extra "stsub"), by k_asm⟩
  case fin =>
    clear g9 v9 rF rN rR
    intro ys2 nk2 ow9 dk9 ok9 vs9 oW9 M9 xs9 ws9 hy2 nw2 g9 v9
    unfold LCg.FinE
    intro D9 h9 tk9 F9 N9 o9
    dsimp only [LD] at N9
    dsimp only
    have e1 := List.mem_append_right nk2 kM
    have e2 := List.mem_append_right nk2 kD
    have mi9 := g9.mem
    obtain ⟨vm9, mm19, mm29, mm39, mm49⟩ := id mi9
    have di9 := v9.i
    have lo9 := g9.lo
    have lk1 := v9.u.q
    k_steps
    exact ret _ _ _ (by k_asm)
end
local macro_rules | `(tactic| walk_at "compareOp NotEq ref ref") => `(tactic| (k_here; k_extra "neref"))
theorem u_cw9 : True := by (k_with "newtup" => (k_dflt (refine' kq_newTuple w ?zzF ?zzN ?zzi ?zzz ?_; (case zzF => k_asm); (case zzN => k_asm); (case zzi => exact rfl); (case zzz => exact Nat.le_of_ble_eq_true rfl); k_whole); intro D' ko' h' F' N' l1 hko; (try k_lt l1); (try dsimp only [keyOf, List.map] at hko))); trivial
theorem ne_nil {prog : Program} {w : World} {A : Around} {E : Value → Shared → Prop} {s : Shared} {h₀ : Heap} {L a b : Addr} {news : List (Addr × Obj)} {vs : List Value} {na nb : Nat} {ns : List Int} {Q : Value → Shared → Prop} (N : News h₀ L s.heap news) (hb : (b, W.listOf ([] : List Value).toArray nb) ∈ news) (ha : (a, W.listOf vs.toArray na) ∈ news) (hi : IntsAre vs ns) (hn : ns ≠ []) (hu : A.units + 64 < cLine) (h : Q (.bool true) s) :
    wpAny (model prog w) A (compareOp .NotEq (.ref a) (.ref b)) Q E s :=
  ne_intsK ⟨_, (N _ ha).1, rfl, _, rfl⟩ hi ⟨_, (N _ hb).1, rfl, _, rfl⟩ .nil hu (by rw [decide_eq_false hn]; exact h)
theorem map_swap3 {m₀ : Str → Option Value} {a b k : Str} {x u v : Option Value} (h1 : k ≠ a) (h2 : k ≠ b) : (fun z => if z = a then u else if z = b then v else if z = k then x else m₀ z) = fun z => if z = k then x else if z = a then u else if z = b then v else m₀ z := by
  funext z
  by_cases e1 : z = k
  · rw [if_pos e1, e1, if_neg h1, if_neg h2, if_pos rfl]
  · rw [if_neg e1, if_neg e1]
section
variable {w : World} {p : Program} {loose : List Str} {mean : ExcName → Option Value} {mg mb : Str → Option Value} {base h₀ : Heap} {L fa : Addr} {cdv : Value} {m₀ : Str → Option Value} {s : Shared} {Q : Flow → Shared → Prop} {E : Value → Shared → Prop} {K T : List (Addr × Obj)} {c : Wa} {q : Int} {fr : Int → Int} {wd : Int → Int → Int} {ocw ocm : Obj} {x : Int} {t8 : Tok}
theorem law_t10 (B : Below callerA base [] h₀) (F : Fr h₀ L s.heap m₀) (X : (Mine.K w.params).In h₀) (T0 : Top p loose mean mg mb h₀)
    (k1 : (L + 1 + 1, ocw) ∈ T) (dcw : ocw.data = .cell (some (.ref c.wo))) (kM : (L + 1, ocm) ∈ T) (dcm : ocm.data = .cell (some (.ref c.mem)))
    (S : St w c K T 8 4294967291 fr wd h₀ L s.heap)
    (ret : ∀ h' tk' m', Fr h₀ L h' m' → Q (.ret (.bool true)) { s with heap := h', toks := tk' }) :
    wpAny (model PySem.Challenge.rw_pf0221_01.prog w) (callerA.deeper (lawE L fa cdv)) (execs (lawT 10) (lawE L fa cdv)) Q E s := by
  obtain ⟨ow9, dk9, ok9, vs9, oW9, M9, xs9, ws9, g9, v9, N9⟩ := S
  dsimp only [LD] at N9
  have hwo9 := g9.Wo
  k_steps
  rename_i N1 hh3 tk3 ru1 ru2 ru3 rR rF rN rE
  clear N1 rE
  unfold DcQ
  refine ⟨_, _, _, _, _, _, _, 32, _, rfl, by rfl, rF, news_perm (l' := LD c ow9 dk9 ok9 vs9 oW9 ([] ++ T)) rN (by k_extra "stsub"), rR, by decide, by rfl, by size_fits, fun s₂ hs₂ => ?_⟩
  obtain ⟨hx2, rfl⟩ := hs₂
  refine rest_loop (K := K) (T1 := T) (k := 8) (q := 4294967291) (fr := fr) (wd := wd) (fun i : Nat => wd ((0 + (i : Int) * 4) / 16) ((0 + (i : Int) * 4) % 16 / 4)) 32 ?turn ?fin 32 0 [] [] ow9 dk9 ok9 vs9 oW9 M9 xs9 ws9 rfl .nil Newer.nil g9 v9
  case turn =>
    clear g9 v9 rF rN rR hwo9
    intro i ys2 v9 I oI C oC D m₂ h tk E' nk2 i4 hP hC hx F' nw2 S9
    obtain ⟨t8, rfl⟩ := hP
    obtain ⟨ow9, dk9, ok9, vs9, oW9, M9, xs9, ws9, g9, v9, N9⟩ := S9
    dsimp only [LD] at N9
    have e1 := List.mem_append_right nk2 k1
    have hw9 := g9.wo
    unfold WoO at hw9
    have hwo9 := g9.Wo
    have tw9 := v9.tw
    have rw9 := v9.r
    have lW9 := g9.lW
    k_steps
    exact ⟨[], _, _, _, rfl, rfl, Newer.nil, St.mk g9 v9 (by k_asm) (by k_extra "stsub"), by k_asm⟩
  case fin =>
    clear rF rN rR hwo9
    have gT := g9
    have hKT := v9.b
    clear g9 v9
    intro ys2 nk2 ow9 dk9 ok9 vs9 oW9 M9 xs9 ws9 hy2 nw2 g9 v9
    unfold LCg.FinA
    intro D8 h8 tk8 F8 N8 o8
    obtain ⟨o81, o82, o83, o84, o85, o86⟩ := o8
    have sp8 : ∀ p ∈ (D8, LCg.lst ys2) :: (nk2 ++ T), p ∈ nk2 ++ T ∨ SepX c dk9 p := fun p hp => by
      rcases List.mem_cons.mp hp with rfl | hp
      · exact .inr ⟨Ne.symm o81, Ne.symm o82, Ne.symm o84, Ne.symm o85, Ne.symm o83⟩
      · exact .inl hp
    have g8 : Good w c ((D8, LCg.lst ys2) :: (nk2 ++ T)) := g9.to (fun p hp => List.mem_cons_of_mem _ hp) sp8
    have v8 : Inv w c (nk2 ++ K) ((D8, LCg.lst ys2) :: (nk2 ++ T)) 8 4294967291 fr wd dk9 ok9 ow9 vs9 oW9 M9 xs9 ws9 := v9.to (fun p hp => List.mem_cons_of_mem _ (v9.b p hp)) sp8
    dsimp only [LD] at N8
    dsimp only
    k_dflt (refine law_t11 B F8 X T0 (List.mem_cons_of_mem _ (List.mem_append_right nk2 kM)) dcm List.mem_cons_self hy2 (St.mk g8 v8 N8 (by k_extra "stsub")) fun h' tk' m' hF => ret h' tk' m' hF)
theorem law_t9 (B : Below callerA base [] h₀) (F : Fr h₀ L s.heap m₀) (X : (Mine.K w.params).In h₀) (T0 : Top p loose mean mg mb h₀)
    (k1 : (L + 1 + 1, ocw) ∈ T) (dcw : ocw.data = .cell (some (.ref c.wo))) (kM : (L + 1, ocm) ∈ T) (dcm : ocm.data = .cell (some (.ref c.mem)))
    (hE : PassesOwn (model PySem.Challenge.rw_pf0221_01.prog w) (callerA.deeper (lawE L fa cdv)) (lawE L fa cdv) E) (S : St w c K T 8 4294967291 fr wd h₀ L s.heap)
    (ret : ∀ h' tk' m', Fr h₀ L h' m' → Q (.ret (.bool true)) { s with heap := h', toks := tk' }) :
    wpAny (model PySem.Challenge.rw_pf0221_01.prog w) (callerA.deeper (lawE L fa cdv)) (execs (lawT 9) (lawE L fa cdv)) Q E s := by
  obtain ⟨ow9, dk9, ok9, vs9, oW9, M9, xs9, ws9, g9, v9, N9⟩ := S
  dsimp only [LD] at N9
  k_steps
  rename_i N1 hh3 tk3 ru1 ru2 ru3 rR rF rN rE
  clear N1 rE
  unfold DcQ
  refine iter_rangeS (n := 8) (K := K) (T1 := T) [Str.ofString "page"] (fun _ k' q' fr' wd' => k' = 8 ∧ q' = 4294967291 ∧ fr' = fr ∧ wd' = wd) (by rfl) rR (by decide) (by rfl) rF g9 v9 (news_perm rN (by k_extra "stsub")) ⟨rfl, rfl, rfl, rfl⟩ ?turn ?done
  case turn =>
    clear rR rF rN g9 v9
    intro i v m₁ h tk nk own k' q' fr' wd' i8 hP hm hz nw F' S9
    obtain ⟨t8, rfl⟩ := hP
    obtain ⟨rfl, rfl, rfl, rfl⟩ := hz
    have k2 := List.mem_append_right own (List.mem_append_right nk k1)
    k_dflt (refine law_turn3 B F' X T0 k2 dcw (by omega) (by omega) S9 ?_)
    intro nk2 h' tk' nw2 S2 F2
    unfold DcQ
    refine ⟨.inl rfl, nk2, _, _, _, _, _, _, _, rfl, ?keeps, ⟨rfl, rfl, rfl, rfl⟩, nw2, S2, F2⟩
    exact hm.set List.mem_cons_self
  case done =>
    clear rR rF rN
    intro h tk m₁ nk k' q' fr' wd' hm hz nw S3 F3
    obtain ⟨rfl, rfl, rfl, rfl⟩ := hz
    dsimp only
    k_dflt (refine law_t10 B F3 X T0 (List.mem_append_right nk k1) dcw (List.mem_append_right nk kM) dcm S3 fun h' tk' m' hF => ret h' tk' m' hF)
theorem law_t8 {Dm : Addr} {wm : List Value} {ms : List Int} {nm : Nat} (B : Below callerA base [] h₀) (F : Fr h₀ L s.heap (fun y => if y = Str.ofString "marks" then some (.ref Dm) else m₀ y)) (X : (Mine.K w.params).In h₀) (T0 : Top p loose mean mg mb h₀)
    (k1 : (L + 1 + 1, ocw) ∈ T) (dcw : ocw.data = .cell (some (.ref c.wo))) (kM : (L + 1, ocm) ∈ T) (dcm : ocm.data = .cell (some (.ref c.mem)))
    (kD : (Dm, W.listOf wm.toArray nm) ∈ T) (hIm : IntsAre wm ms) (hne : ms ≠ []) (hb : ∀ x ∈ ms, 0 ≤ x ∧ x < 1000000000)
    (hE : PassesOwn (model PySem.Challenge.rw_pf0221_01.prog w) (callerA.deeper (lawE L fa cdv)) (lawE L fa cdv) E) (S : St w c K T 8 4294967291 fr wd h₀ L s.heap)
    (ret : ∀ h' tk' m', Fr h₀ L h' m' → Q (.ret (.bool true)) { s with heap := h', toks := tk' }) :
    wpAny (model PySem.Challenge.rw_pf0221_01.prog w) (callerA.deeper (lawE L fa cdv)) (execs (lawT 8) (lawE L fa cdv)) Q E s := by
  obtain ⟨ow9, dk9, ok9, vs9, oW9, M9, xs9, ws9, g9, v9, N9⟩ := S
  dsimp only [LD] at N9
  have hwo9 := g9.Wo
  k_steps
  rename_i l' h2 F2 N2 l1
  have hl : 0 < ms.length := by cases ms with | nil => exact absurd rfl hne | cons _ _ => exact Nat.succ_pos _
  have hl2 : (0 : Int) < (ms.length : Int) := by omega
  have h0 : 0 ≤ ms.getD (Int.toNat 0) 0 ∧ ms.getD (Int.toNat 0) 0 < 1000000000 := by
    cases ms with
    | nil => exact absurd rfl hne
    | cons y _ => exact hb y List.mem_cons_self
  obtain ⟨h00, h09⟩ := h0
  k_dflt (refine ne_nil N2 List.mem_cons_self (by k_mem) hIm hne (by ktr_units) ?_)
  (k_with "ctr" => ((with_reducible show wpAny _ _ (call (Value.ref 902) _) _ _ _); refine dcq_stop ?_))
  (k_with "tok" => ((with_reducible show wpAny _ _ (execs [Stmt.For _ _ _ _ _, _, _] _) _ _ _); refine dcq_stop ?_))
  by_cases h5 : ms.getD (Int.toNat 0) 0 % 5 = 1
  · clear l1
    k_steps
    unfold DcQ
    k_dflt (refine c_deed (by k_asm) (by k_asm) (by k_asm) (by k_asm) (by k_extra "base") (by k_extra "st") (by ktr_room) (by ktr_units) (by omega) (by omega) ?_)
    intro nk9 fr9 wd9 h' tk' nw9 S9 F'
    clear N2 F2 g9 v9 hwo9
    obtain ⟨ow9, dk9, ok9, vs9, oW9, M9, xs9, ws9, g9, v9, N9⟩ := S9
    dsimp only [LD] at N9
    have hwo9 := g9.Wo
    have k2 := List.mem_append_right nk9 k1
    have kD2 := List.mem_append_right nk9 kD
    k_steps
    unfold DcQ
    k_dflt (refine c_deed (by k_asm) (by k_asm) (by k_asm) (by k_asm) (by k_extra "base") (by k_extra "st") (by ktr_room) (by ktr_units) (by omega) (by omega) ?_)
    intro nk10 fr10 wd10 h10 tk10 nw10 S10 F10
    k_steps
    unfold DcQ
    k_dflt (refine law_t9 B (by k_asm) X T0 (List.mem_append_right nk10 k2) dcw (List.mem_append_right nk10 (List.mem_append_right nk9 kM)) dcm hE S10 fun h' tk' m' hF => ret h' tk' m' hF)
  · clear l1
    k_steps
    unfold DcQ
    k_dflt (refine law_t9 B (by k_asm) X T0 k1 dcw kM dcm hE (St.mk g9 v9 (by k_asm) (by k_extra "stsub")) fun h' tk' m' hF => ret h' tk' m' hF)
end
theorem ints_at {vs : List Value} {ns : List Int} (h : IntsAre vs ns) : ∀ {i : Nat} {v : Value}, vs[i]? = some v → ∃ x t, v = .int x t ∧ x ∈ ns := by
  induction h with
  | nil => intro i v e; cases e
  | cons x t _ ih =>
    intro i v e
    cases i with
    | zero => exact ⟨_, _, (Option.some.inj e).symm, List.mem_cons_self⟩
    | succ j =>
      obtain ⟨y, t, e1, e2⟩ := ih (i := j) (v := v) e
      exact ⟨y, t, e1, List.mem_cons_of_mem _ e2⟩
section
variable {w : World} {p : Program} {loose : List Str} {mean : ExcName → Option Value} {mg mb : Str → Option Value} {base h₀ : Heap} {L fa : Addr} {cdv : Value} {m₀ : Str → Option Value} {s : Shared} {Q : Flow → Shared → Prop} {E : Value → Shared → Prop} {K T : List (Addr × Obj)} {c : Wa} {q : Int} {fr : Int → Int} {wd : Int → Int → Int} {ocw ocm : Obj} {x : Int} {t8 : Tok}
theorem law_t7 {Dm : Addr} {wm : List Value} {ms : List Int} {nm : Nat} (B : Below callerA base [] h₀) (F : Fr h₀ L s.heap (fun y => if y = Str.ofString "marks" then some (.ref Dm) else m₀ y)) (X : (Mine.K w.params).In h₀) (T0 : Top p loose mean mg mb h₀)
    (k1 : (L + 1 + 1, ocw) ∈ T) (dcw : ocw.data = .cell (some (.ref c.wo))) (kM : (L + 1, ocm) ∈ T) (dcm : ocm.data = .cell (some (.ref c.mem)))
    (kD : (Dm, W.listOf wm.toArray nm) ∈ T) (hIm : IntsAre wm ms) (hne : ms ≠ []) (hb : ∀ x ∈ ms, 0 ≤ x ∧ x < 1000000000)
    (hE : PassesOwn (model PySem.Challenge.rw_pf0221_01.prog w) (callerA.deeper (lawE L fa cdv)) (lawE L fa cdv) E) (S : St w c K T 8 4294967291 fr wd h₀ L s.heap)
    (ret : ∀ h' tk' m', Fr h₀ L h' m' → Q (.ret (.bool true)) { s with heap := h', toks := tk' }) :
    wpAny (model PySem.Challenge.rw_pf0221_01.prog w) (callerA.deeper (lawE L fa cdv)) (execs (lawT 7) (lawE L fa cdv)) Q E s := by
  obtain ⟨ow9, dk9, ok9, vs9, oW9, M9, xs9, ws9, g9, v9, N9⟩ := S
  dsimp only [LD] at N9
  k_steps
  unfold DcQ
  refine iter_listS (ys := wm) (K := K) (T1 := T) [Str.ofString "page", Str.ofString "n"] (fun _ k' q' _ _ => k' = 8 ∧ q' = 4294967291) (by rfl) kD rfl rfl (by assumption) g9 v9 (news_perm (by assumption) (by k_extra "stsub")) ⟨rfl, rfl⟩ ?turn ?done
  case turn =>
    clear g9 v9
    intro i v m₁ h tk nk own k' q' fr' wd' hi hv hm hz nw F' S9
    obtain ⟨y, t8, rfl, hy⟩ := ints_at hIm hv
    obtain ⟨y0, y9⟩ := hb y hy
    obtain ⟨rfl, rfl⟩ := hz
    have k2 := List.mem_append_right own (List.mem_append_right nk k1)
    k_dflt (refine law_turn2 B F' X T0 k2 dcw y0 y9 hE S9 ?_)
    intro nk2 fr2 wd2 u h' tk' nw2 S2 F2
    unfold DcQ
    refine ⟨.inl rfl, nk2, _, _, _, _, _, _, _, rfl, ?keeps, ⟨rfl, rfl⟩, nw2, S2, F2⟩
    exact (hm.set (List.mem_cons_of_mem _ List.mem_cons_self)).set List.mem_cons_self
  case done =>
    intro h tk m₁ nk k' q' fr' wd' hm hz nw S3 F3
    obtain ⟨rfl, rfl⟩ := hz
    obtain ⟨u, v, e⟩ := hm.two
    rw [e.trans (map_swap3 (by decide) (by decide))] at F3
    dsimp only
    k_dflt (refine law_t8 B F3 X T0 (List.mem_append_right nk k1) dcw (List.mem_append_right nk kM) dcm (List.mem_append_right nk kD) hIm hne hb hE S3 fun h' tk' m' hF => ret h' tk' m' hF)
theorem law_t6 {Dm : Addr} {wm : List Value} {ms : List Int} {nm : Nat} (B : Below callerA base [] h₀) (F : Fr h₀ L s.heap (fun y => if y = Str.ofString "marks" then some (.ref Dm) else m₀ y)) (X : (Mine.K w.params).In h₀) (T0 : Top p loose mean mg mb h₀)
    (k1 : (L + 1 + 1, ocw) ∈ T) (dcw : ocw.data = .cell (some (.ref c.wo))) (kM : (L + 1, ocm) ∈ T) (dcm : ocm.data = .cell (some (.ref c.mem)))
    (kD : (Dm, W.listOf wm.toArray nm) ∈ T) (hIm : IntsAre wm ms) (hne : ms ≠ []) (hb : ∀ x ∈ ms, 0 ≤ x ∧ x < 1000000000)
    (hE : PassesOwn (model PySem.Challenge.rw_pf0221_01.prog w) (callerA.deeper (lawE L fa cdv)) (lawE L fa cdv) E) (S : St w c K T 8 q fr wd h₀ L s.heap)
    (ret : ∀ h' tk' m', Fr h₀ L h' m' → Q (.ret (.bool true)) { s with heap := h', toks := tk' }) :
    wpAny (model PySem.Challenge.rw_pf0221_01.prog w) (callerA.deeper (lawE L fa cdv)) (execs (lawT 6) (lawE L fa cdv)) Q E s := by
  obtain ⟨ow9, dk9, ok9, vs9, oW9, M9, xs9, ws9, g9, v9, N9⟩ := S
  dsimp only [LD] at N9
  have mi9 := g9.mem
  obtain ⟨vm9, mm19, mm29, mm39, mm49⟩ := id mi9
  (k_with "ctr" => ((with_reducible show wpAny _ _ (call (Value.ref 523) _) _ _ _); refine dcq_stop ?_))
  (k_with "tok" => ((with_reducible show wpAny _ _ (execs [Stmt.For _ _ _ _ _, _, _, _, _] _) _ _ _); refine dcq_stop ?_))
  k_steps
  unfold DcQ
  refine c_putw (by k_asm) (by k_asm) (by k_asm) (by k_asm) (by k_extra "base") (news := LD c ow9 dk9 ok9 vs9 oW9 T) (by k_asm) (by ktr_room) (by ktr_units) (g9.mem.mono fun p hp _ => mem_LD hp) v9.i g9.lo (updF_LD g9 v9) (by decide) (by decide) (by decide) ?_
  intro ow' h' tk' F' N' d'
  rw [show (200 : Int) / 4 = 50 by decide, show ((2 : Int) ^ Int.toNat 32 - 5) % 4294967296 = 4294967291 by decide] at d'
  have v8 : Inv w c K T 8 4294967291 fr wd dk9 ok9 ow' vs9 oW9 (put M9 50 4294967291) xs9 ws9 := ⟨d', v9.t, v9.n, v9.z, v9.lo2, v9.s, v9.n1, v9.n2, v9.n3, v9.n4, v9.f, v9.tw, v9.r, v9.u.poke, v9.b⟩
  clear d' v9
  k_steps
  unfold DcQ
  k_dflt (refine law_t7 B (by k_asm) X T0 k1 dcw kM dcm kD hIm hne hb hE (St.mk g9 v8 (by k_asm) (fun p hp => hp)) fun h' tk' m' hF => ret h' tk' m' hF)
end
theorem u_Memory : True := by (k_with "ctr" => ((with_reducible show wpAny _ _ (call (Value.ref 643) _) _ _ _); k_dflt (refine c_Memory (by k_asm) (by k_asm) (by k_asm) (by k_asm) (by k_extra "base") (by k_asm) (by ktr_room) (by ktr_units) ?_); intro xM dM wM oM vM h' tk' F' N' laM lM1 lM2 loM hiM; (try k_lt laM); try dsimp only)); trivial
theorem u_Layout : True := by (k_with "ctr" => ((with_reducible show wpAny _ _ (call (Value.ref 182) _) _ _ _); k_dflt (refine c_Layout (by k_asm) (by k_asm) (by k_asm) (by k_asm) (by k_extra "base") (by k_asm) (by ktr_room) (by ktr_units) ?_); intro xL dL vL h' tk' F' N' laL lL1; (try k_lt laL); try dsimp only)); trivial
theorem u_Tables : True := by (k_with "ctr" => ((with_reducible show wpAny _ _ (call (Value.ref 454) _) _ _ _); k_dflt (refine c_Tables (by k_asm) (by k_asm) (by k_asm) (by k_asm) (by k_extra "base") (by k_asm) (by ktr_room) (by ktr_units) ?_); intro xT dT vT h' tk' F' N' laT lT1; (try k_lt laT); try dsimp only)); trivial
theorem u_Walker : True := by (k_with "ctr" => ((with_reducible show wpAny _ _ (call (Value.ref 266) _) _ _ _); k_dflt (refine c_Walker (by k_asm) (by k_asm) (by k_asm) (by k_asm) (by k_extra "base") (by k_asm) (by ktr_room) (by ktr_units) ?_); intro xW dW vW h' tk' F' N' laW lW1; (try k_lt laW); try dsimp only)); trivial
theorem u_Bus : True := by (k_with "ctr" => ((with_reducible show wpAny _ _ (call (Value.ref 750) _) _ _ _); k_dflt (refine c_Bus (by k_asm) (by k_asm) (by k_asm) (by k_asm) (by k_extra "base") (by k_asm) (by ktr_room) (by ktr_units) ?_); intro xB dB lsB vB h' tk' F' N' laB lB1; (try k_lt laB); try dsimp only)); trivial
theorem u_Pages : True := by (k_with "ctr" => ((with_reducible show wpAny _ _ (call (Value.ref 870) _) _ _ _); k_dflt (refine c_Pages (by k_asm) (by k_asm) (by k_asm) (by k_asm) (by k_extra "base") (by k_asm) (by ktr_room) (by ktr_units) ?_); intro xP dP gP hP oP vP uP h' tk' F' N' laP lP1 lP2 lP3 loP heP; (try k_lt laP); try dsimp only)); trivial
theorem u_Quick : True := by (k_with "ctr" => ((with_reducible show wpAny _ _ (call (Value.ref 302) _) _ _ _); k_dflt (refine c_Quick (by k_asm) (by k_asm) (by k_asm) (by k_asm) (by k_extra "base") (by k_asm) (by ktr_room) (by ktr_units) (by k_mem) (by k_mem) ?_); intro xQ dQ kQ oQ vQ h' tk' F' N' laQ lQ1 lQ2 loQ tuQ; (try k_lt laQ); try dsimp only)); trivial
local macro_rules | `(tactic| walk_at "call type:list") => `(tactic| (k_here; k_extra "clist"))
theorem list_r8 {prog : Program} {w : World} {A : Around} {E : Value → Shared → Prop} {s : Shared} {h₀ : Heap} {L : Addr} {m : Str → Option Value} {news : List (Addr × Obj)} {r : Addr} {t u v : Tok} {Q : Value → Shared → Prop} (hh : A.handled = none) (F : Fr h₀ L s.heap m) (N : News h₀ L s.heap news) (hr : IsRange s.heap r 0 8 1 t u v)
    (h : ∀ D h' tk ys n, Fr h₀ L h' m → News h₀ L h' ((D, listOf ys.toArray n) :: news) → (∀ p ∈ news, p.1 < D) → FrsL ys (fun p => p) → Q (.ref D) { s with heap := h', toks := tk }) : wpAny (model prog w) A (call (.type "list") [.ref r]) Q E s :=
  list_rangeD hh F N hr (n := 8) (by decide) (by rfl) (by decide) fun h' tk ys F' N' _ h0 _ np hc => by
    obtain ⟨n, NX⟩ := made_enters np F' N' h0
    have hi : IntsAre ys ((rangeInts 0 1 8).map id) := CarriedAll.intsOf hc
    exact h _ h' tk ys n F' NX (fun p hp => Heap.lt_size (N p hp).1) ⟨_, hi, by decide, fun p p0 p8 => by
      obtain ⟨n, rfl⟩ := Int.eq_ofNat_of_zero_le p0
      have hn : n < 8 := by omega
      match n, hn with
      | 0, _ | 1, _ | 2, _ | 3, _ | 4, _ | 5, _ | 6, _ | 7, _ => rfl⟩
theorem map_over {a : Str} {x u : Option Value} {r : Str → Option Value} : (fun y => if y = a then x else (fun z => if z = a then u else r z) y) = fun y => if y = a then x else r y := by
  funext y
  by_cases e : y = a
  · rw [if_pos e, if_pos e]
  · rw [if_neg e, if_neg e]
    exact if_neg e
theorem map_swap5 {m₀ : Str → Option Value} {a b c d k : Str} {x u v y z : Option Value} (h1 : k ≠ a) (h2 : k ≠ b) (h3 : k ≠ c) (h4 : k ≠ d) : (fun n => if n = a then u else if n = b then v else if n = c then y else if n = d then z else if n = k then x else m₀ n) = fun n => if n = k then x else if n = a then u else if n = b then v else if n = c then y else if n = d then z else m₀ n := by
  funext n
  by_cases e1 : n = k
  · rw [if_pos e1, e1, if_neg h1, if_neg h2, if_neg h3, if_neg h4, if_pos rfl]
  · rw [if_neg e1, if_neg e1]
theorem newer_mid {n own nk Y Y' T1 : List (Addr × Obj)} (h : Newer n (own ++ (nk ++ (Y' ++ T1)))) (e : Y'.map (·.1) = Y.map (·.1)) : Newer n (own ++ (nk ++ (Y ++ T1))) := newer_fst h fun p hp => by
  rcases List.mem_append.mp hp with hp | hp
  · exact ⟨p, List.mem_append_left _ hp, rfl⟩
  · rcases List.mem_append.mp hp with hp | hp
    · exact ⟨p, List.mem_append_right _ (List.mem_append_left _ hp), rfl⟩
    · rcases List.mem_append.mp hp with hp | hp
      · have : p.1 ∈ Y'.map (·.1) := e ▸ List.mem_map.mpr ⟨p, hp, rfl⟩
        obtain ⟨q, hq, e'⟩ := List.mem_map.mp this
        exact ⟨q, List.mem_append_right _ (List.mem_append_right _ (List.mem_append_left _ hq)), e'⟩
      · exact ⟨p, List.mem_append_right _ (List.mem_append_right _ (List.mem_append_right _ hp)), rfl⟩
theorem marks_ok (ns : List Int) : (∀ x ∈ List.map (fun k' : Int => (if k' < 0 then -k' else k').fmod (10 ^ Int.toNat 9)) (List.take 8 ns) ++ (List.replicate (if decide (ns = []) = true then (1 : Int) else 0).toNat [(3276 : Int), 995]).flatten, 0 ≤ x ∧ x < 1000000000) ∧
    List.map (fun k' : Int => (if k' < 0 then -k' else k').fmod (10 ^ Int.toNat 9)) (List.take 8 ns) ++ (List.replicate (if decide (ns = []) = true then (1 : Int) else 0).toNat [(3276 : Int), 995]).flatten ≠ [] := by
  cases ns with
  | nil => exact ⟨by decide, by decide⟩
  | cons a l =>
    refine ⟨fun x hx => ?_, fun h => ?_⟩
    · rcases List.mem_append.mp hx with hx | hx
      · obtain ⟨y, _, rfl⟩ := List.mem_map.mp hx
        have e : (10 : Int) ^ Int.toNat 9 = 1000000000 := by decide
        rw [e, Int.fmod_eq_emod_of_nonneg _ (by decide)]
        omega
      · have e : (if decide (a :: l = []) = true then (1 : Int) else 0).toNat = 0 := by rw [if_neg (by simp)]; rfl
        rw [e] at hx
        cases hx
    · rw [List.append_eq_nil_iff] at h
      cases h.1
theorem marks_ok2 (ns : List Int) : (∀ x ∈ List.map (fun k' : Int => (if k' < 0 then -k' else k') % (10 ^ Int.toNat 9)) (List.take 8 ns) ++ (List.replicate (if decide (ns = []) = true then (1 : Int) else 0).toNat [(3276 : Int), 995]).flatten, 0 ≤ x ∧ x < 1000000000) ∧
    List.map (fun k' : Int => (if k' < 0 then -k' else k') % (10 ^ Int.toNat 9)) (List.take 8 ns) ++ (List.replicate (if decide (ns = []) = true then (1 : Int) else 0).toNat [(3276 : Int), 995]).flatten ≠ [] := by
  cases ns with
  | nil => exact ⟨by decide, by decide⟩
  | cons a l =>
    refine ⟨fun x hx => ?_, fun h => ?_⟩
    · rcases List.mem_append.mp hx with hx | hx
      · obtain ⟨y, _, rfl⟩ := List.mem_map.mp hx
        have e : (10 : Int) ^ Int.toNat 9 = 1000000000 := by decide
        rw [e]
        omega
      · have e : (if decide (a :: l = []) = true then (1 : Int) else 0).toNat = 0 := by rw [if_neg (by simp)]; rfl
        rw [e] at hx
        cases hx
    · rw [List.append_eq_nil_iff] at h
      cases h.1
theorem u_clist : True := by (k_with "clist" => ((with_reducible show wpAny _ _ (call (Value.type "list") [Value.ref _]) _ _ _); k_dflt (refine list_r8 (by rfl) (by k_asm) (by k_asm) (by assumption) ?_); intro fl9 h' tk' fs9 nf9 F' N' l1 fr9; (try k_lt l1); try dsimp only)); trivial
theorem PgOk.cons {w : World} {T : List (Addr × Obj)} {mem dmem dw pgs dpg gl dh : Addr} {v : PV} {a : Addr} {o : Obj} (P : PgOk w T mem dmem dw pgs dpg gl dh v) (n1 : @Ne Nat a dw) (n2 : @Ne Nat a dpg) (n3 : @Ne Nat a dh) : PgOk w ((a, o) :: T) mem dmem dw pgs dpg gl dh v :=
  ⟨P.M.mono fun p hp _ => List.mem_cons_of_mem _ hp, List.mem_cons_of_mem _ P.pg, List.mem_cons_of_mem _ P.gl, List.forall_mem_cons.mpr ⟨n1, P.s1⟩, List.forall_mem_cons.mpr ⟨n2, P.s2⟩, List.forall_mem_cons.mpr ⟨n3, P.s3⟩, P.n1, P.n2, P.n3, P.lo, P.lh⟩
theorem t9_facts {c1 c2 Dm dM xM wM dL xL dP xP gP hP dT xT dB xB dW xW dwd : Nat} {o1 o2 o3 o4 o5 o6 o7 o8 o9 o10 o11 o12 o13 o14 : Obj} (h0 : c1 < c2) (h1 : c2 < Dm) (h2 : Dm < dM) (h3 : dM < xM) (h4 : xM < wM) (h5 : wM < dL) (h6 : dL < xL) (h7 : xL < dP) (h8 : dP < xP) (h9 : xP < gP) (h10 : gP < hP) (h11 : hP < dT) (h12 : dT < xT) (h13 : xT < dB) (h14 : dB < xB) (h15 : xB < dW) (h16 : dW < xW) (h17 : xW < dwd) : ∃ T9 : List (Nat × Obj), T9 = [(xW, o1), (dW, o2), (xB, o3), (dB, o4), (xT, o5), (dT, o6), (xP, o7), (gP, o8), (xL, o9), (dL, o10), (xM, o11), (dM, o12), (Dm, o13), (c1, o14)] ∧ (xW, o1) ∈ T9 ∧ (dW, o2) ∈ T9 ∧ (xB, o3) ∈ T9 ∧ (dB, o4) ∈ T9 ∧ (xT, o5) ∈ T9 ∧ (dT, o6) ∈ T9 ∧ (xP, o7) ∈ T9 ∧ (gP, o8) ∈ T9 ∧ (xL, o9) ∈ T9 ∧ (dL, o10) ∈ T9 ∧ (xM, o11) ∈ T9 ∧ (dM, o12) ∈ T9 ∧ (Dm, o13) ∈ T9 ∧ (c1, o14) ∈ T9 ∧ (∀ p ∈ T9, p.1 ≠ wM) ∧ (∀ p ∈ T9, p.1 ≠ dP) ∧ (∀ p ∈ T9, p.1 ≠ hP) ∧ (∀ p ∈ T9, p.1 < dwd) ∧ (∀ p ∈ T9, p.1 ≠ c2) ∧ wM < dP ∧ dP < hP ∧ hP < dwd ∧ c2 < wM := by
  have g_wM_dL : wM < dL := h5
  have g_wM_xL : wM < xL := Nat.lt_trans g_wM_dL h6
  have g_wM_dP : wM < dP := Nat.lt_trans g_wM_xL h7
  have g_wM_xP : wM < xP := Nat.lt_trans g_wM_dP h8
  have g_wM_gP : wM < gP := Nat.lt_trans g_wM_xP h9
  have g_wM_hP : wM < hP := Nat.lt_trans g_wM_gP h10
  have g_wM_dT : wM < dT := Nat.lt_trans g_wM_hP h11
  have g_wM_xT : wM < xT := Nat.lt_trans g_wM_dT h12
  have g_wM_dB : wM < dB := Nat.lt_trans g_wM_xT h13
  have g_wM_xB : wM < xB := Nat.lt_trans g_wM_dB h14
  have g_wM_dW : wM < dW := Nat.lt_trans g_wM_xB h15
  have g_wM_xW : wM < xW := Nat.lt_trans g_wM_dW h16
  have g_wM_dwd : wM < dwd := Nat.lt_trans g_wM_xW h17
  have l_xM_wM : xM < wM := h4
  have l_dM_wM : dM < wM := Nat.lt_trans h3 l_xM_wM
  have l_Dm_wM : Dm < wM := Nat.lt_trans h2 l_dM_wM
  have l_c2_wM : c2 < wM := Nat.lt_trans h1 l_Dm_wM
  have l_c1_wM : c1 < wM := Nat.lt_trans h0 l_c2_wM
  have g_dP_xP : dP < xP := h8
  have g_dP_gP : dP < gP := Nat.lt_trans g_dP_xP h9
  have g_dP_hP : dP < hP := Nat.lt_trans g_dP_gP h10
  have g_dP_dT : dP < dT := Nat.lt_trans g_dP_hP h11
  have g_dP_xT : dP < xT := Nat.lt_trans g_dP_dT h12
  have g_dP_dB : dP < dB := Nat.lt_trans g_dP_xT h13
  have g_dP_xB : dP < xB := Nat.lt_trans g_dP_dB h14
  have g_dP_dW : dP < dW := Nat.lt_trans g_dP_xB h15
  have g_dP_xW : dP < xW := Nat.lt_trans g_dP_dW h16
  have g_dP_dwd : dP < dwd := Nat.lt_trans g_dP_xW h17
  have l_xL_dP : xL < dP := h7
  have l_dL_dP : dL < dP := Nat.lt_trans h6 l_xL_dP
  have l_wM_dP : wM < dP := Nat.lt_trans h5 l_dL_dP
  have l_xM_dP : xM < dP := Nat.lt_trans h4 l_wM_dP
  have l_dM_dP : dM < dP := Nat.lt_trans h3 l_xM_dP
  have l_Dm_dP : Dm < dP := Nat.lt_trans h2 l_dM_dP
  have l_c2_dP : c2 < dP := Nat.lt_trans h1 l_Dm_dP
  have l_c1_dP : c1 < dP := Nat.lt_trans h0 l_c2_dP
  have g_hP_dT : hP < dT := h11
  have g_hP_xT : hP < xT := Nat.lt_trans g_hP_dT h12
  have g_hP_dB : hP < dB := Nat.lt_trans g_hP_xT h13
  have g_hP_xB : hP < xB := Nat.lt_trans g_hP_dB h14
  have g_hP_dW : hP < dW := Nat.lt_trans g_hP_xB h15
  have g_hP_xW : hP < xW := Nat.lt_trans g_hP_dW h16
  have g_hP_dwd : hP < dwd := Nat.lt_trans g_hP_xW h17
  have l_gP_hP : gP < hP := h10
  have l_xP_hP : xP < hP := Nat.lt_trans h9 l_gP_hP
  have l_dP_hP : dP < hP := Nat.lt_trans h8 l_xP_hP
  have l_xL_hP : xL < hP := Nat.lt_trans h7 l_dP_hP
  have l_dL_hP : dL < hP := Nat.lt_trans h6 l_xL_hP
  have l_wM_hP : wM < hP := Nat.lt_trans h5 l_dL_hP
  have l_xM_hP : xM < hP := Nat.lt_trans h4 l_wM_hP
  have l_dM_hP : dM < hP := Nat.lt_trans h3 l_xM_hP
  have l_Dm_hP : Dm < hP := Nat.lt_trans h2 l_dM_hP
  have l_c2_hP : c2 < hP := Nat.lt_trans h1 l_Dm_hP
  have l_c1_hP : c1 < hP := Nat.lt_trans h0 l_c2_hP
  have g_c2_Dm : c2 < Dm := h1
  have g_c2_dM : c2 < dM := Nat.lt_trans g_c2_Dm h2
  have g_c2_xM : c2 < xM := Nat.lt_trans g_c2_dM h3
  have g_c2_wM : c2 < wM := Nat.lt_trans g_c2_xM h4
  have g_c2_dL : c2 < dL := Nat.lt_trans g_c2_wM h5
  have g_c2_xL : c2 < xL := Nat.lt_trans g_c2_dL h6
  have g_c2_dP : c2 < dP := Nat.lt_trans g_c2_xL h7
  have g_c2_xP : c2 < xP := Nat.lt_trans g_c2_dP h8
  have g_c2_gP : c2 < gP := Nat.lt_trans g_c2_xP h9
  have g_c2_hP : c2 < hP := Nat.lt_trans g_c2_gP h10
  have g_c2_dT : c2 < dT := Nat.lt_trans g_c2_hP h11
  have g_c2_xT : c2 < xT := Nat.lt_trans g_c2_dT h12
  have g_c2_dB : c2 < dB := Nat.lt_trans g_c2_xT h13
  have g_c2_xB : c2 < xB := Nat.lt_trans g_c2_dB h14
  have g_c2_dW : c2 < dW := Nat.lt_trans g_c2_xB h15
  have g_c2_xW : c2 < xW := Nat.lt_trans g_c2_dW h16
  have g_c2_dwd : c2 < dwd := Nat.lt_trans g_c2_xW h17
  have l_c1_c2 : c1 < c2 := h0
  have l_xW_dwd : xW < dwd := h17
  have l_dW_dwd : dW < dwd := Nat.lt_trans h16 l_xW_dwd
  have l_xB_dwd : xB < dwd := Nat.lt_trans h15 l_dW_dwd
  have l_dB_dwd : dB < dwd := Nat.lt_trans h14 l_xB_dwd
  have l_xT_dwd : xT < dwd := Nat.lt_trans h13 l_dB_dwd
  have l_dT_dwd : dT < dwd := Nat.lt_trans h12 l_xT_dwd
  have l_hP_dwd : hP < dwd := Nat.lt_trans h11 l_dT_dwd
  have l_gP_dwd : gP < dwd := Nat.lt_trans h10 l_hP_dwd
  have l_xP_dwd : xP < dwd := Nat.lt_trans h9 l_gP_dwd
  have l_dP_dwd : dP < dwd := Nat.lt_trans h8 l_xP_dwd
  have l_xL_dwd : xL < dwd := Nat.lt_trans h7 l_dP_dwd
  have l_dL_dwd : dL < dwd := Nat.lt_trans h6 l_xL_dwd
  have l_wM_dwd : wM < dwd := Nat.lt_trans h5 l_dL_dwd
  have l_xM_dwd : xM < dwd := Nat.lt_trans h4 l_wM_dwd
  have l_dM_dwd : dM < dwd := Nat.lt_trans h3 l_xM_dwd
  have l_Dm_dwd : Dm < dwd := Nat.lt_trans h2 l_dM_dwd
  have l_c2_dwd : c2 < dwd := Nat.lt_trans h1 l_Dm_dwd
  have l_c1_dwd : c1 < dwd := Nat.lt_trans h0 l_c2_dwd
  refine ⟨_, rfl, by k_mem, by k_mem, by k_mem, by k_mem, by k_mem, by k_mem, by k_mem, by k_mem, by k_mem, by k_mem, by k_mem, by k_mem, by k_mem, by k_mem, ?_, ?_, ?_, ?_, ?_, g_wM_dP, g_dP_hP, g_hP_dwd, l_c2_wM⟩
  · exact List.forall_mem_cons.mpr ⟨Nat.ne_of_gt g_wM_xW, List.forall_mem_cons.mpr ⟨Nat.ne_of_gt g_wM_dW, List.forall_mem_cons.mpr ⟨Nat.ne_of_gt g_wM_xB, List.forall_mem_cons.mpr ⟨Nat.ne_of_gt g_wM_dB, List.forall_mem_cons.mpr ⟨Nat.ne_of_gt g_wM_xT, List.forall_mem_cons.mpr ⟨Nat.ne_of_gt g_wM_dT, List.forall_mem_cons.mpr ⟨Nat.ne_of_gt g_wM_xP, List.forall_mem_cons.mpr ⟨Nat.ne_of_gt g_wM_gP, List.forall_mem_cons.mpr ⟨Nat.ne_of_gt g_wM_xL, List.forall_mem_cons.mpr ⟨Nat.ne_of_gt g_wM_dL, List.forall_mem_cons.mpr ⟨Nat.ne_of_lt l_xM_wM, List.forall_mem_cons.mpr ⟨Nat.ne_of_lt l_dM_wM, List.forall_mem_cons.mpr ⟨Nat.ne_of_lt l_Dm_wM, List.forall_mem_cons.mpr ⟨Nat.ne_of_lt l_c1_wM, fun _ h => nomatch h⟩⟩⟩⟩⟩⟩⟩⟩⟩⟩⟩⟩⟩⟩
  · exact List.forall_mem_cons.mpr ⟨Nat.ne_of_gt g_dP_xW, List.forall_mem_cons.mpr ⟨Nat.ne_of_gt g_dP_dW, List.forall_mem_cons.mpr ⟨Nat.ne_of_gt g_dP_xB, List.forall_mem_cons.mpr ⟨Nat.ne_of_gt g_dP_dB, List.forall_mem_cons.mpr ⟨Nat.ne_of_gt g_dP_xT, List.forall_mem_cons.mpr ⟨Nat.ne_of_gt g_dP_dT, List.forall_mem_cons.mpr ⟨Nat.ne_of_gt g_dP_xP, List.forall_mem_cons.mpr ⟨Nat.ne_of_gt g_dP_gP, List.forall_mem_cons.mpr ⟨Nat.ne_of_lt l_xL_dP, List.forall_mem_cons.mpr ⟨Nat.ne_of_lt l_dL_dP, List.forall_mem_cons.mpr ⟨Nat.ne_of_lt l_xM_dP, List.forall_mem_cons.mpr ⟨Nat.ne_of_lt l_dM_dP, List.forall_mem_cons.mpr ⟨Nat.ne_of_lt l_Dm_dP, List.forall_mem_cons.mpr ⟨Nat.ne_of_lt l_c1_dP, fun _ h => nomatch h⟩⟩⟩⟩⟩⟩⟩⟩⟩⟩⟩⟩⟩⟩
  · exact List.forall_mem_cons.mpr ⟨Nat.ne_of_gt g_hP_xW, List.forall_mem_cons.mpr ⟨Nat.ne_of_gt g_hP_dW, List.forall_mem_cons.mpr ⟨Nat.ne_of_gt g_hP_xB, List.forall_mem_cons.mpr ⟨Nat.ne_of_gt g_hP_dB, List.forall_mem_cons.mpr ⟨Nat.ne_of_gt g_hP_xT, List.forall_mem_cons.mpr ⟨Nat.ne_of_gt g_hP_dT, List.forall_mem_cons.mpr ⟨Nat.ne_of_lt l_xP_hP, List.forall_mem_cons.mpr ⟨Nat.ne_of_lt l_gP_hP, List.forall_mem_cons.mpr ⟨Nat.ne_of_lt l_xL_hP, List.forall_mem_cons.mpr ⟨Nat.ne_of_lt l_dL_hP, List.forall_mem_cons.mpr ⟨Nat.ne_of_lt l_xM_hP, List.forall_mem_cons.mpr ⟨Nat.ne_of_lt l_dM_hP, List.forall_mem_cons.mpr ⟨Nat.ne_of_lt l_Dm_hP, List.forall_mem_cons.mpr ⟨Nat.ne_of_lt l_c1_hP, fun _ h => nomatch h⟩⟩⟩⟩⟩⟩⟩⟩⟩⟩⟩⟩⟩⟩
  · exact List.forall_mem_cons.mpr ⟨l_xW_dwd, List.forall_mem_cons.mpr ⟨l_dW_dwd, List.forall_mem_cons.mpr ⟨l_xB_dwd, List.forall_mem_cons.mpr ⟨l_dB_dwd, List.forall_mem_cons.mpr ⟨l_xT_dwd, List.forall_mem_cons.mpr ⟨l_dT_dwd, List.forall_mem_cons.mpr ⟨l_xP_dwd, List.forall_mem_cons.mpr ⟨l_gP_dwd, List.forall_mem_cons.mpr ⟨l_xL_dwd, List.forall_mem_cons.mpr ⟨l_dL_dwd, List.forall_mem_cons.mpr ⟨l_xM_dwd, List.forall_mem_cons.mpr ⟨l_dM_dwd, List.forall_mem_cons.mpr ⟨l_Dm_dwd, List.forall_mem_cons.mpr ⟨l_c1_dwd, fun _ h => nomatch h⟩⟩⟩⟩⟩⟩⟩⟩⟩⟩⟩⟩⟩⟩
  · exact List.forall_mem_cons.mpr ⟨Nat.ne_of_gt g_c2_xW, List.forall_mem_cons.mpr ⟨Nat.ne_of_gt g_c2_dW, List.forall_mem_cons.mpr ⟨Nat.ne_of_gt g_c2_xB, List.forall_mem_cons.mpr ⟨Nat.ne_of_gt g_c2_dB, List.forall_mem_cons.mpr ⟨Nat.ne_of_gt g_c2_xT, List.forall_mem_cons.mpr ⟨Nat.ne_of_gt g_c2_dT, List.forall_mem_cons.mpr ⟨Nat.ne_of_gt g_c2_xP, List.forall_mem_cons.mpr ⟨Nat.ne_of_gt g_c2_gP, List.forall_mem_cons.mpr ⟨Nat.ne_of_gt g_c2_xL, List.forall_mem_cons.mpr ⟨Nat.ne_of_gt g_c2_dL, List.forall_mem_cons.mpr ⟨Nat.ne_of_gt g_c2_xM, List.forall_mem_cons.mpr ⟨Nat.ne_of_gt g_c2_dM, List.forall_mem_cons.mpr ⟨Nat.ne_of_gt g_c2_Dm, List.forall_mem_cons.mpr ⟨Nat.ne_of_lt l_c1_c2, fun _ h => nomatch h⟩⟩⟩⟩⟩⟩⟩⟩⟩⟩⟩⟩⟩⟩
set_option maxHeartbeats 0 in
theorem lw : WalkO qv looseN (XL qv []) Hk.says (OpenRow.toRowW (OpenLaw.row PySem.Challenge.rw_pf0221_01)) dLaw [] (fun f vs => PySem.call f vs) := by
  k_fill
  intro w s0 s1 mg mb G Y fa o pm cd0 doc dV kV ho hd hcd hD hmg hg args vals as hpre hlay hrd hwl hlo
  have z12 := kIn_of Y
  have X := (Ground.X G).1
  refine Ground.open G ?_
  intro T0 B D TE TW
  try (refine guard_noD D (by decide +kernel) ?_; clear D)
  have TA := at_of_top T0
  try (obtain ⟨_, _, he, B0⟩ := based_of_top T0 rfl hmg ho hd; have he' : cd0 = _ := he; subst he'; clear he)
  clear hmg
  wrow_args hpre hlay hrd hwl hlo
  all_goals (
    first | refine callC_kw (enter_call ?_) | refine enter_call ?_ | refine callC_kw (enter_callW ?_) | refine enter_callW ?_ | w_how
    w_top on
    try refine codeAny_mono ?_ (fun _ _ g => GoodW.toG g)
    have K0 := below_caller (Top.heap T0)
    w_call any ho hd hcd hD T0 F
    clear hd TA
    k_drop
    skip)
  all_goals try k_fold
  try (rename Ground .. => hh; clear hh)
  try (rename Flt.MathXP .. => hh; clear hh)

  try (rename Tables .. => hh; clear hh)
  try (rename TopE .. => hh; clear hh)
  try (rename TopW .. => hh; clear hh)
  (k_with "ctr" => ((with_reducible show wpAny _ _ (call (Value.ref 327) _) _ _ _); refine dcq_stop ?_))
  k_steps
  rename_i cd z17 ns z20 z21 z22 z23 z24 z25 z26 z27 z28 z29 z30 z31 z32 z33 hIs z35 z36 z37 z40 z41 ocw z43 dcw z45 X0c z47 z48 z49 z50 z51 z52 z53 z54 z55 z56 z57 z58 z59 z60 z61 z62 z63 z64 z65 z66 z67 z68 z69 z70 z71 z72 z73 z74 z75 z76 z77 Dm wm z80 hIm z82 z83 z84 z85 z86 z87 z88 z89 z90 z91 z92 z93 z94 z95 ocm dcm z98 z99 z100 z101 z102 z103 z104 z105 z106 z107 z108 z109 z110 z111 dwd z113 owd Fw Nw lowd hdwd l1wd
  unfold DcQ
  simp only [List.append_nil]
  obtain ⟨T9, hT9, m1, m2, m3, m4, m5, m6, m7, m8, m9, m10, m11, m12, m13, m15, a1, a2, a3, a4, a6, b1, b2, b3, b4⟩ := t9_facts (c1 := s1.heap.objs.size + 1) (c2 := s1.heap.objs.size + 1 + 1) (Dm := Dm) (dM := dM) (xM := xM) (wM := wM) (dL := dL) (xL := xL) (dP := dP) (xP := xP) (gP := gP) (hP := hP) (dT := dT) (xT := xT) (dB := dB) (xB := xB) (dW := dW) (xW := xW) (dwd := dwd)
    (o1 := instObj 266 dW) (o2 := dictOf (walE vW xB xL) vW.n) (o3 := instObj 750 dB) (o4 := dictOf (busE vB xM lsB) vB.n) (o5 := instObj 454 dT) (o6 := dictOf (tabE vT xM xL xP) vT.n) (o7 := instObj 870 dP) (o8 := W.listOf ([] : List Value).toArray 0) (o9 := instObj 182 dL) (o10 := dictOf (layE vL) vL.n) (o11 := instObj 643 dM) (o12 := dictOf (memE vM wM) vM.n) (o13 := W.listOf wm.toArray 0) (o14 := ocm)
    (Nat.lt_succ_self _) (by omega) (by omega) lM1 lM2 (by omega) lL1 (by omega) lP1 lP2 lP3 (by omega) lT1 (by omega) lB1 (by omega) lW1 (by omega)
  have N9 := news_perm (l' := (s1.heap.objs.size + 1 + 1, ocw) :: (dwd, owd) :: (wM, oM) :: (dP, dictOf (pgE vP xM gP hP 0 uP) vP.n) :: (hP, oP) :: T9) Nw (by rw [hT9]; k_extra "stsubD")
  clear hT9
  have LI : LayIn T9 xL dL := ⟨vL, m9, m10⟩
  have MI : MemIn T9 xM dM wM := ⟨vM, m11, m12, a1 _ m11, a1 _ m12⟩
  have TI : TabIn T9 xT dT xP xL dL xM dM wM := ⟨vT, m5, m6, LI, MI, a1 _ m5, a1 _ m6, a1 _ m9, a1 _ m10⟩
  have WI : WalIn T9 xW dW xB dB lsB xL dL xM dM wM := ⟨vW, vB, m1, m2, m3, m4, LI, MI, a1 _ m1, a1 _ m2, a1 _ m3, a1 _ m4, a1 _ m9, a1 _ m10⟩
  have PO : PgOk w T9 xM dM wM xP dP gP hP vP := ⟨MI, m7, m8, a1, a2, a3, Nat.ne_of_lt b1, Nat.ne_of_lt (Nat.lt_trans b1 b2), Nat.ne_of_lt b2, loM, loP⟩
  clear z50 z51 z52 z53 z54 z55 z57 z58 z62 z65 z68 z71 z73 z74 z75 z76 z77 z82 z84 z85 z93 z110 z111 z45 X0c Nw laM laL laP laT laB laW lM1 lM2 lL1 lP1 lP2 lP3 lT1 lB1 lW1 l1wd l1
  have a5 : ∀ p ∈ T9, p.1 ≠ dwd := fun p hp => Nat.ne_of_lt (a4 p hp)
  refine c_newtab (by k_asm) (by k_asm) (by k_asm) (by k_asm) (by k_extra "base") ((PO.cons (a := dwd) (o := owd) (Nat.ne_of_gt (Nat.lt_trans b1 (Nat.lt_trans b2 b3))) (Nat.ne_of_gt (Nat.lt_trans b2 b3)) (Nat.ne_of_gt b3)).cons (a := s1.heap.objs.size + 1 + 1) (o := ocw) (Nat.ne_of_lt b4) (Nat.ne_of_lt (Nat.lt_trans b4 b1)) (Nat.ne_of_lt (Nat.lt_trans b4 (Nat.lt_trans b1 b2)))) (TI.mono fun p hp _ => List.mem_cons_of_mem _ (List.mem_cons_of_mem _ hp)) (j := 0) (oh := oP) (M := fun _ => 0) (news_perm N9 (by k_extra "stsub")) (by ktr_room) (by ktr_units) hiM heP (by omega) (by omega) (by omega) ?_
  intro ow1 M1 u1 oh1 t1 h1 tk1 F1 N1 d1 hh1 mx1 mz1
  have M10 : ∀ x, M1 x = 0 := fun x => by
    by_cases e : x < 240 + 4 * 0 ∨ 240 + 4 * 0 + 4 ≤ x
    · exact mx1 x e
    · exact mz1 x (by omega) (by omega)
  dsimp only [LP] at N1
  clear mx1 mz1 N9 Fw
  k_steps
  rename_i e0 e1 e2 e3 ocw2 dcw2 e6 x1 x2 e7 e8 e9 e10 e11 e12 e13 e14 lfl e16 ld' e18 e19 e20 e21 e22 e23 e24 e25 e26 owd3 e28 e29 hdw x3 x4 e31 e32 e33 e34 e35 rR rF rN rE
  have b5 : @LT.lt Nat _ dwd dQ := by omega
  have b6 : @LT.lt Nat _ dwd xQ := Nat.lt_trans b5 lQ1
  have q1 := of_allLt laQ.2.2.2.2.2
  have q2 := of_allLt lfl.2.2.2.2.2.2.2.2
  have q3 := of_allLt ld'.2.2.2.2.2.2.2.2.2
  obtain ⟨c, rfl, rfl, rfl, rfl, rfl, rfl, rfl, rfl, rfl, rfl, rfl, rfl, rfl, rfl, rfl, rfl, rfl, rfl, rfl, hcn, rfl, rfl, rfl, g0, g1, v0⟩ := setup (cw := s1.heap.objs.size + 1 + 1) (ocw := ocw2) (oh := oh1) (op := dictOf (pgE vP xM gP hP (0 + 1) u1) vP.n) (nf := nf9) (vQ := vQ) (tr := t1) (owd := owd3) WI TI hdw loM lo' loQ a1 q1 q2 q3 b4 b1 b2 b3 b5 lQ1 lQ2 (by omega) (by omega) d1 M10 fr9 tuQ (tupd_empty hs')
  clear lfl ld' laQ q1 q2 q3 a1 a2 a3 a4 a5 a6 lo' hs' hi' e2 e13 e19 e20 e23 e24 e25 e28 e29 rE e12 l1 x1 x2 x3 x4
  rw [← hcn] at rN
  have N0 : News T0.heap s1.heap.objs.size e31 (LD c ow1 kQ oQ fs9 o' ([(dP, dictOf (pgE vP c.mem gP hP (0 + 1) u1) vP.n), (hP, oh1)] ++ ([(s1.heap.objs.size + 1 + 1, ocw2), (c.wo, c.oWo), (c.qi, instObj 302 c.dqk)] ++ T9))) := news_perm rN (by k_extra "stsub")
  have PO1 := ((PO.cons (a := c.qi) (o := instObj 302 c.dqk) (Nat.ne_of_gt (Nat.lt_trans (Nat.lt_trans b1 (Nat.lt_trans b2 b3)) b6)) (Nat.ne_of_gt (Nat.lt_trans (Nat.lt_trans b2 b3) b6)) (Nat.ne_of_gt (Nat.lt_trans b3 b6))).cons (a := c.wo) (o := c.oWo) (Nat.ne_of_gt (Nat.lt_trans b1 (Nat.lt_trans b2 b3))) (Nat.ne_of_gt (Nat.lt_trans b2 b3)) (Nat.ne_of_gt b3)).cons (a := s1.heap.objs.size + 1 + 1) (o := ocw2) (Nat.ne_of_lt b4) (Nat.ne_of_lt (Nat.lt_trans b4 b1)) (Nat.ne_of_lt (Nat.lt_trans b4 (Nat.lt_trans b1 b2)))
  have k1 : (s1.heap.objs.size + 1 + 1, ocw2) ∈ [(s1.heap.objs.size + 1 + 1, ocw2), (c.wo, c.oWo), (c.qi, instObj 302 c.dqk)] ++ T9 := List.mem_cons_self
  have k2 : (Dm, W.listOf wm.toArray 0) ∈ [(s1.heap.objs.size + 1 + 1, ocw2), (c.wo, c.oWo), (c.qi, instObj 302 c.dqk)] ++ T9 := List.mem_append_right _ m13
  have k3 : (s1.heap.objs.size + 1, ocm) ∈ [(s1.heap.objs.size + 1 + 1, ocw2), (c.wo, c.oWo), (c.qi, instObj 302 c.dqk)] ++ T9 := List.mem_append_right _ m15
  obtain ⟨T1, hT1⟩ : ∃ T1, T1 = [(s1.heap.objs.size + 1 + 1, ocw2), (c.wo, c.oWo), (c.qi, instObj 302 c.dqk)] ++ T9 := ⟨_, rfl⟩
  rw [← hT1] at N0 g0 g1 v0 k1 k2 k3
  replace PO1 : PgOk w T1 c.mem c.dmem c.dw c.pgs dP gP hP vP := by rw [hT1]; exact PO1
  clear b5 b6 hT1 rN PO WI TI MI LI m1 m2 m3 m4 m5 m6 m7 m8 m9 m10 m11 m12 m13 m15 b4 b1 b3 lQ1 lQ2 d1 M10 fr9 tuQ hdw
  generalize bindL _ _ _ = mR at rF
  obtain ⟨hb9, hne9⟩ := marks_ok ns
  obtain ⟨hb8, hne8⟩ := marks_ok2 ns
  unfold DcQ
  refine iter_rangeY (n := 8) (c := c) (K := []) (T1 := T1) (Y₀ := [(dP, dictOf (pgE vP c.mem gP hP (0 + 1) u1) vP.n), (hP, oh1)]) [Str.ofString "page"] (fun i Y k q fr wd => k = (i : Int) ∧ q = 0 ∧ fr = (fun p => p) ∧ ∃ u oh, Y = [(dP, dictOf (pgE vP c.mem gP hP (1 + ((i : Int) + 3) / 4) u) vP.n), (hP, oh)] ∧ HeldD w oh (1 + (i + 3) / 4)) (by rfl) rR (by decide) (by rfl) rF g0 (by intro p hp; cases hp) g1 v0 N0 ⟨rfl, rfl, rfl, u1, oh1, by rfl, (by rw [show (1 + (0 + 3) / 4) = 0 + 1 by decide]; exact hh1)⟩ ?turn ?done
  case turn =>
    clear N0 g1 v0 rR rF
    intro i v9 m₁ h tk nk own Y k q fr wd i8 hP9 hm hz hY nw ho9 F' S9
    obtain ⟨t8, rfl⟩ := hP9
    obtain ⟨rfl, rfl, rfl, u9, oh9, rfl, hh9⟩ := hz
    obtain ⟨ux, e9⟩ := hm.one
    rw [e9, map_over] at F'
    k_dflt (refine law_turn1 K0 F' z12 T0 g0 PO1 k1 dcw2 i8 nw ho9 hh9 S9 ?_)
    intro nk2 u2 oh2 wd2 h2 tk2 nw2 hh2 S2 F2
    unfold DcQ
    refine ⟨.inl rfl, nk2, [(dP, dictOf (pgE vP c.mem gP hP (1 + (((i + 1 : Nat) : Int) + 3) / 4) u2) vP.n), (hP, oh2)], _, h2, tk2, _, _, _, _, rfl, ?keeps, ⟨rfl, rfl, rfl, u2, oh2, rfl, hh2⟩, rfl, newer_mid nw2 rfl, S2, F2⟩
    exact KeepsN.refl.set List.mem_cons_self
  case done =>
    clear N0 g1 v0 rR rF
    (rename IntsAre wm _ => hIm9)
    intro h tk m₁ nk Y k q fr wd hm hz hY nw S9 F'
    obtain ⟨rfl, rfl, rfl, u9, oh9, rfl, hh9⟩ := hz
    obtain ⟨ux, e9⟩ := hm.one
    rw [e9.trans (map_swap5 (by decide) (by decide) (by decide) (by decide))] at F'
    dsimp only
    first
      | k_dflt (refine law_t6 K0 F' z12 T0 (List.mem_append_right nk (List.mem_append_right _ k1)) dcw2 (List.mem_append_right nk (List.mem_append_right _ k3)) dcm (List.mem_append_right nk (List.mem_append_right _ k2)) hIm9 hne9 hb9 (by passes_own) S9 ?_)
      | k_dflt (refine law_t6 K0 F' z12 T0 (List.mem_append_right nk (List.mem_append_right _ k1)) dcw2 (List.mem_append_right nk (List.mem_append_right _ k3)) dcm (List.mem_append_right nk (List.mem_append_right _ k2)) hIm9 hne8 hb8 (by passes_own) S9 ?_)
    intro h9 tk9 m9 F9
    k_steps
set_option maxHeartbeats 0
theorem hd (walk : WalkO qv looseN (XL qv []) Hk.says (OpenRow.toRowW (OpenLaw.row PySem.Challenge.rw_pf0221_01)) dLaw [] (fun f vs => PySem.call f vs)) : PySem.Challenge.rw_pf0221_01.Holds := by
  w_on
  refine holds_law wsaid fun said => ?_
  refine holds_open (q := qv) (loose := looseN) (Xt := Xt0) (XP := XL qv []) (Yf := Hk.obs) (Ya := Hk.val) (YP := Hk.says) (d := dLaw) (kwd := []) (N := 13490) tleft (Hook.of Hk) (Hook.keeps Hk) (fun s e => xl_of s (Bool.and_eq_true_iff.mp e).1) XL.keeps (by rfl) (by rfl) (by rfl) (fun s e => recFacts_of (Bool.and_eq_true_iff.mp e).2) (by rfl) (by first | assumption | decide +kernel) (by decide +kernel) ⟨rfl, rfl, rfl, rfl, rfl, by decide +kernel⟩ ?hw walk
  case hw => exact ⟨[.list [.int 3]], by decide +kernel, by decide +kernel⟩
end Mine
set_option maxRecDepth 100000 in
set_option maxHeartbeats 8000000 in
theorem PySem.Challenge.cw_pf0221_01_holds : PySem.Challenge.rw_pf0221_01.Holds := by
  exact Mine.hd Mine.lw
