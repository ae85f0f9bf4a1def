import PyProof.Rows.All
import Wide.All
import OpenK.AllK
import Wide.FinOn
import PySem.Challenge.RW_sj0191_01
open PySem PySem.W PyProof.Rows PySem.Calls PySem.Spec
set_option Elab.async false
set_option compiler.extract_closed false
namespace Mine
set_option maxRecDepth 100000
set_option maxHeartbeats 8000000

abbrev pw : Program := PySem.Challenge.rw_sj0191_01.row.prog
noncomputable def q : Program := view pw [42]
noncomputable def names : List Str := ["SnobolError", "Pattern", "Delayed", "Code", "NameRef", "Holder", "kind_of", "text_of_whole", "to_text", "need_text", "Array", "Table", "Data", "size_of_bounds", "field_ref", "slot_get", "slot_set", "data_made", "World", "next_number", "set_var", "FREE", "REACHED", "held", "made_data", "things_in_node", "things_in", "reach", "world_roots", "collect", "_law_get", "_law_put", "_law_keys", "_law_links", "_law_turn", "_law_grown", "_law_place"].map Str.ofString

set_option maxRecDepth 100000
set_option maxHeartbeats 0
theorem opens : opening pw = plainProg pw.main.scope.names := by kernel_rfl
theorem fences (s : Shared) : fenceModules? pw s = some s := by kernel_rfl
theorem bsize (w : World) : ((boot_heap w.params).isNs mainGlobals && (Array.mk ([] : List GenState)).size == 0, (boot_heap w.params).objs.size, (boot_heap w.params).nsMap mainGlobals "__annotations__") = (true, 11, some (.ref 6)) := by kernel_rfl

noncomputable def nth : List Stmt → Nat → Stmt
  | [], _ => .Pass ⟨0, 0, 0, 0⟩
  | x :: _, 0 => x
  | _ :: l, n + 1 => nth l n
noncomputable def aOf : Stmt → Arguments
  | .FunctionDef _ a .. => a
  | _ => ⟨[], [], none, [], [], none, []⟩
noncomputable def bOf : Stmt → List Stmt
  | .FunctionDef _ _ b .. => b
  | .ClassDef _ _ _ b .. => b
  | _ => []
noncomputable def sOf : Stmt → Scope
  | .FunctionDef _ _ _ _ _ _ s .. => s
  | .ClassDef _ _ _ _ _ _ s .. => s
  | _ => ⟨.function, [], false, false, []⟩
noncomputable def bE : List Stmt := behindTheImports pw
noncomputable def top (i : Nat) : Stmt := nth bE i
noncomputable def sub (i j : Nat) : Stmt := nth (bOf (top i)) j
noncomputable def c1 (P : Params) (o2 o3 o12 : Obj) (t : List Obj) : List Obj := (boot_o_0 P) :: (boot_o_1 P) :: o2 :: o3 :: (boot_o_4 P) :: (boot_o_5 P) :: (boot_o_6 P) :: (boot_o_7 P) :: (boot_o_8 P) :: (boot_o_9 P) :: (boot_o_10 P) :: ⟨(.type "tuple"), none, (.seq #[] (nat_lit 0)), #[]⟩ :: o12 :: ⟨(.type "code"), none, (.fields #[(.str (.ofString "<module>") (nat_lit 182)), (.str (.ofString "<module>") (nat_lit 183)), (.str (.ofString "/claim/cut.py") (nat_lit 184)), (.int (.ofNat (nat_lit 1)) (nat_lit 0)), (.int (.ofNat (nat_lit 0)) (nat_lit 0)), (.int (.ofNat (nat_lit 0)) (nat_lit 0)), (.int (.ofNat (nat_lit 0)) (nat_lit 0)), (.int (.ofNat (nat_lit 0)) (nat_lit 0)), (.ref (nat_lit 11)), (.bool false), (.int (.ofNat (nat_lit 181)) (nat_lit 0)), (.ref (nat_lit 12)), .none, .none, .none, .none, (.int (.ofNat (nat_lit 185)) (nat_lit 0)), (.int (.ofNat (nat_lit 1)) (nat_lit 0)), (.str (.ofString "/claim/cut.py") (nat_lit 186))]), #[]⟩ :: ⟨(.type "frame"), none, .plain, #[(some (.ref (nat_lit 13))), (some (.ref (nat_lit 3))), (some (.ref (nat_lit 3))), none, (some (.str (.ofString "__main__") (nat_lit 164))), none, (some (.ref (nat_lit 0)))]⟩ :: t
noncomputable def c2 (P : Params) (t : List Obj) : List Obj := ⟨(.type "tuple"), none, (.seq #[(.type "Exception")] (nat_lit 0)), #[]⟩ :: ⟨(.type "builtin_function_or_method"), none, (.fields #[(.builtin "type.__prepare__"), (.type "type")]), #[]⟩ :: ⟨(.type "dict"), none, (.dict #[⟨(PyData.keyHash P (.ofString "__module__")), (.str (.ofString "__module__") (nat_lit 196)), (.str (.ofString "snobol.values") (nat_lit 187))⟩, ⟨(PyData.keyHash P (.ofString "__qualname__")), (.str (.ofString "__qualname__") (nat_lit 198)), (.str (.ofString "SnobolError") (nat_lit 197))⟩, ⟨(PyData.keyHash P (.ofString "__firstlineno__")), (.str (.ofString "__firstlineno__") (nat_lit 200)), (.int (.ofNat (nat_lit 2)) (nat_lit 199))⟩, ⟨(PyData.keyHash P (.ofString "__init__")), (.str (.ofString "__init__") (nat_lit 211)), (.ref (nat_lit 31))⟩, ⟨(PyData.keyHash P (.ofString "__static_attributes__")), (.str (.ofString "__static_attributes__") (nat_lit 214)), (.ref (nat_lit 32))⟩, ⟨(PyData.keyHash P (.ofString "__classcell__")), (.str (.ofString "__classcell__") (nat_lit 215)), (.ref (nat_lit 18))⟩] (nat_lit 6)), #[]⟩ :: ⟨(.type "cell"), none, (.cell (some (.ref (nat_lit 34)))), #[]⟩ :: ⟨(.type "tuple"), none, (.seq #[] (nat_lit 0)), #[]⟩ :: ⟨.none, none, (.fields #[(.int (.ofNat (nat_lit 4)) (nat_lit 0)), (.int (.ofNat (nat_lit 4)) (nat_lit 0)), (.ref (nat_lit 30))]), #[]⟩ :: ⟨(.type "code"), none, (.fields #[(.str (.ofString "SnobolError") (nat_lit 191)), (.str (.ofString "SnobolError") (nat_lit 192)), (.str (.ofString "/claim/cut.py") (nat_lit 193)), (.int (.ofNat (nat_lit 2)) (nat_lit 0)), (.int (.ofNat (nat_lit 0)) (nat_lit 0)), (.int (.ofNat (nat_lit 0)) (nat_lit 0)), (.int (.ofNat (nat_lit 0)) (nat_lit 0)), (.int (.ofNat (nat_lit 0)) (nat_lit 0)), (.ref (nat_lit 19)), (.bool false), (.int (.ofNat (nat_lit 181)) (nat_lit 0)), (.ref (nat_lit 20)), .none, .none, .none, .none, (.int (.ofNat (nat_lit 194)) (nat_lit 0)), (.int (.ofNat (nat_lit 2)) (nat_lit 0)), (.str (.ofString "/claim/cut.py") (nat_lit 195))]), #[]⟩ :: ⟨(.type "frame"), none, .plain, #[(some (.ref (nat_lit 21))), (some (.ref (nat_lit 3))), (some (.ref (nat_lit 17))), none, (some (.str (.ofString "snobol.values") (nat_lit 187))), none, (some (.ref (nat_lit 0)))]⟩ :: ⟨(.type "tuple"), none, (.seq #[(.str (.ofString "") (nat_lit 201))] (nat_lit 0)), #[]⟩ :: ⟨(.type "tuple"), none, (.seq #[(.ref (nat_lit 18))] (nat_lit 0)), #[]⟩ :: ⟨(.type "tuple"), none, (.seq #[(.str (.ofString "__class__") (nat_lit 205))] (nat_lit 0)), #[]⟩ :: ⟨.none, none, (.fields #[]), #[]⟩ :: ⟨(.type "tuple"), none, (.seq #[(.str (.ofString "self") (nat_lit 206)), (.str (.ofString "number") (nat_lit 207)), (.str (.ofString "told") (nat_lit 208))] (nat_lit 0)), #[]⟩ :: ⟨(.type "tuple"), none, (.seq #[] (nat_lit 0)), #[]⟩ :: ⟨.none, none, (.func ⟨(.ofString "__init__"), (.ofString "SnobolError.__init__"), (aOf (sub (nat_lit 1) (nat_lit 0))), (.stmts (bOf (sub (nat_lit 1) (nat_lit 0)))), (sOf (sub (nat_lit 1) (nat_lit 0))), (nat_lit 0), [], .none, .none, .none, .none, none, .none, .none, (nat_lit 0)⟩), #[]⟩ :: ⟨(.type "code"), none, (.fields #[(.str (.ofString "__init__") (nat_lit 202)), (.str (.ofString "SnobolError.__init__") (nat_lit 203)), (.str (.ofString "/claim/cut.py") (nat_lit 204)), (.int (.ofNat (nat_lit 4)) (nat_lit 0)), (.int (.ofNat (nat_lit 3)) (nat_lit 0)), (.int (.ofNat (nat_lit 0)) (nat_lit 0)), (.int (.ofNat (nat_lit 0)) (nat_lit 0)), (.int (.ofNat (nat_lit 3)) (nat_lit 0)), (.ref (nat_lit 25)), (.bool true), (.int (.ofNat (nat_lit 181)) (nat_lit 0)), (.ref (nat_lit 26)), .none, (.ref (nat_lit 27)), (.ref (nat_lit 28)), (.ref (nat_lit 29)), (.int (.ofNat (nat_lit 209)) (nat_lit 0)), (.int (.ofNat (nat_lit 4)) (nat_lit 0)), (.str (.ofString "/claim/cut.py") (nat_lit 210))]), #[]⟩ :: ⟨(.type "function"), none, (.func ⟨(.ofString "__init__"), (.ofString "SnobolError.__init__"), (aOf (sub (nat_lit 1) (nat_lit 0))), (.stmts (bOf (sub (nat_lit 1) (nat_lit 0)))), (sOf (sub (nat_lit 1) (nat_lit 0))), (nat_lit 3), [((.ofString "__class__"), (nat_lit 18))], (.ref (nat_lit 23)), .none, .none, (.str (.ofString "snobol.values") (nat_lit 187)), none, (.ref (nat_lit 30)), (.ref (nat_lit 24)), (nat_lit 0)⟩), #[]⟩ :: ⟨(.type "tuple"), none, (.seq #[(.str (.ofString "number") (nat_lit 212)), (.str (.ofString "told") (nat_lit 213))] (nat_lit 0)), #[]⟩ :: ⟨(.type "dict"), none, (.dict #[⟨(PyData.keyHash P (.ofString "__module__")), (.str (.ofString "__module__") (nat_lit 196)), (.str (.ofString "snobol.values") (nat_lit 187))⟩, ⟨(PyData.keyHash P (.ofString "__firstlineno__")), (.str (.ofString "__firstlineno__") (nat_lit 200)), (.int (.ofNat (nat_lit 2)) (nat_lit 199))⟩, ⟨(PyData.keyHash P (.ofString "__init__")), (.str (.ofString "__init__") (nat_lit 211)), (.ref (nat_lit 31))⟩, ⟨(PyData.keyHash P (.ofString "__static_attributes__")), (.str (.ofString "__static_attributes__") (nat_lit 214)), (.ref (nat_lit 32))⟩, ⟨(PyData.keyHash P (.ofString "__weakref__")), (.str (.ofString "__weakref__") (nat_lit 217)), (.ref (nat_lit 35))⟩, ⟨(PyData.keyHash P (.ofString "__doc__")), (.str (.ofString "__doc__") (nat_lit 218)), .none⟩] (nat_lit 4)), #[]⟩ :: ⟨(.type "type"), none, (.cls ⟨(.ofString "SnobolError"), [(.type "Exception")], [(.ref (nat_lit 34)), (.type "Exception"), (.type "BaseException"), (.type "object")], (nat_lit 33), (.ofString "SnobolError"), true, [], [], false, none, false⟩), #[(some (.ref (nat_lit 15))), none, (some (.str (.ofString "SnobolError") (nat_lit 189))), (some (.str (.ofString "SnobolError") (nat_lit 197))), (some (.builtin "Exception.__new__")), (some (.bool true))]⟩ :: ⟨(.type "getset_descriptor"), none, (.fields #[(.str (.ofString "__weakref__") (nat_lit 216)), (.ref (nat_lit 34)), (.builtin "ExceptionGroup.__weakref__"), .none]), #[]⟩ :: ⟨(.type "super"), none, (.fields #[(.ref (nat_lit 34)), (.ref (nat_lit 34)), (.ref (nat_lit 34))]), #[]⟩ :: ⟨(.type "builtin_function_or_method"), none, (.fields #[(.builtin "object.__init_subclass__"), (.ref (nat_lit 34))]), #[]⟩ :: ⟨(.type "tuple"), none, (.seq #[] (nat_lit 0)), #[]⟩ :: ⟨(.type "builtin_function_or_method"), none, (.fields #[(.builtin "type.__prepare__"), (.type "type")]), #[]⟩ :: ⟨(.type "dict"), none, (.dict #[⟨(PyData.keyHash P (.ofString "__module__")), (.str (.ofString "__module__") (nat_lit 230)), (.str (.ofString "snobol.values") (nat_lit 187))⟩, ⟨(PyData.keyHash P (.ofString "__qualname__")), (.str (.ofString "__qualname__") (nat_lit 232)), (.str (.ofString "Pattern") (nat_lit 231))⟩, ⟨(PyData.keyHash P (.ofString "__firstlineno__")), (.str (.ofString "__firstlineno__") (nat_lit 234)), (.int (.ofNat (nat_lit 8)) (nat_lit 233))⟩, ⟨(PyData.keyHash P (.ofString "__init__")), (.str (.ofString "__init__") (nat_lit 242)), (.ref (nat_lit 51))⟩, ⟨(PyData.keyHash P (.ofString "__static_attributes__")), (.str (.ofString "__static_attributes__") (nat_lit 244)), (.ref (nat_lit 52))⟩] (nat_lit 5)), #[]⟩ :: ⟨(.type "tuple"), none, (.seq #[] (nat_lit 0)), #[]⟩ :: ⟨.none, none, (.fields #[(.int (.ofNat (nat_lit 10)) (nat_lit 0)), (.int (.ofNat (nat_lit 4)) (nat_lit 0)), (.ref (nat_lit 50))]), #[]⟩ :: ⟨(.type "code"), none, (.fields #[(.str (.ofString "Pattern") (nat_lit 225)), (.str (.ofString "Pattern") (nat_lit 226)), (.str (.ofString "/claim/cut.py") (nat_lit 227)), (.int (.ofNat (nat_lit 8)) (nat_lit 0)), (.int (.ofNat (nat_lit 0)) (nat_lit 0)), (.int (.ofNat (nat_lit 0)) (nat_lit 0)), (.int (.ofNat (nat_lit 0)) (nat_lit 0)), (.int (.ofNat (nat_lit 0)) (nat_lit 0)), (.ref (nat_lit 41)), (.bool false), (.int (.ofNat (nat_lit 181)) (nat_lit 0)), (.ref (nat_lit 42)), .none, .none, .none, .none, (.int (.ofNat (nat_lit 228)) (nat_lit 0)), (.int (.ofNat (nat_lit 8)) (nat_lit 0)), (.str (.ofString "/claim/cut.py") (nat_lit 229))]), #[]⟩ :: ⟨(.type "frame"), none, .plain, #[(some (.ref (nat_lit 43))), (some (.ref (nat_lit 3))), (some (.ref (nat_lit 40))), none, (some (.str (.ofString "snobol.values") (nat_lit 187))), none, (some (.ref (nat_lit 0)))]⟩ :: ⟨(.type "tuple"), none, (.seq #[] (nat_lit 0)), #[]⟩ :: ⟨.none, none, (.fields #[]), #[]⟩ :: ⟨(.type "tuple"), none, (.seq #[(.str (.ofString "self") (nat_lit 238)), (.str (.ofString "node") (nat_lit 239))] (nat_lit 0)), #[]⟩ :: ⟨(.type "tuple"), none, (.seq #[] (nat_lit 0)), #[]⟩ :: ⟨.none, none, (.func ⟨(.ofString "__init__"), (.ofString "Pattern.__init__"), (aOf (sub (nat_lit 2) (nat_lit 0))), (.stmts (bOf (sub (nat_lit 2) (nat_lit 0)))), (sOf (sub (nat_lit 2) (nat_lit 0))), (nat_lit 0), [], .none, .none, .none, .none, none, .none, .none, (nat_lit 0)⟩), #[]⟩ :: ⟨(.type "code"), none, (.fields #[(.str (.ofString "__init__") (nat_lit 235)), (.str (.ofString "Pattern.__init__") (nat_lit 236)), (.str (.ofString "/claim/cut.py") (nat_lit 237)), (.int (.ofNat (nat_lit 10)) (nat_lit 0)), (.int (.ofNat (nat_lit 2)) (nat_lit 0)), (.int (.ofNat (nat_lit 0)) (nat_lit 0)), (.int (.ofNat (nat_lit 0)) (nat_lit 0)), (.int (.ofNat (nat_lit 3)) (nat_lit 0)), (.ref (nat_lit 45)), (.bool true), (.int (.ofNat (nat_lit 181)) (nat_lit 0)), (.ref (nat_lit 46)), .none, (.ref (nat_lit 47)), (.ref (nat_lit 48)), (.ref (nat_lit 49)), (.int (.ofNat (nat_lit 240)) (nat_lit 0)), (.int (.ofNat (nat_lit 10)) (nat_lit 0)), (.str (.ofString "/claim/cut.py") (nat_lit 241))]), #[]⟩ :: ⟨(.type "function"), none, (.func ⟨(.ofString "__init__"), (.ofString "Pattern.__init__"), (aOf (sub (nat_lit 2) (nat_lit 0))), (.stmts (bOf (sub (nat_lit 2) (nat_lit 0)))), (sOf (sub (nat_lit 2) (nat_lit 0))), (nat_lit 3), [], .none, .none, .none, (.str (.ofString "snobol.values") (nat_lit 187)), none, (.ref (nat_lit 50)), .none, (nat_lit 0)⟩), #[]⟩ :: ⟨(.type "tuple"), none, (.seq #[(.str (.ofString "node") (nat_lit 243))] (nat_lit 0)), #[]⟩ :: ⟨(.type "dict"), none, (.dict #[⟨(PyData.keyHash P (.ofString "__module__")), (.str (.ofString "__module__") (nat_lit 230)), (.str (.ofString "snobol.values") (nat_lit 187))⟩, ⟨(PyData.keyHash P (.ofString "__firstlineno__")), (.str (.ofString "__firstlineno__") (nat_lit 234)), (.int (.ofNat (nat_lit 8)) (nat_lit 233))⟩, ⟨(PyData.keyHash P (.ofString "__init__")), (.str (.ofString "__init__") (nat_lit 242)), (.ref (nat_lit 51))⟩, ⟨(PyData.keyHash P (.ofString "__static_attributes__")), (.str (.ofString "__static_attributes__") (nat_lit 244)), (.ref (nat_lit 52))⟩, ⟨(PyData.keyHash P (.ofString "__dict__")), (.str (.ofString "__dict__") (nat_lit 246)), (.ref (nat_lit 55))⟩, ⟨(PyData.keyHash P (.ofString "__weakref__")), (.str (.ofString "__weakref__") (nat_lit 248)), (.ref (nat_lit 56))⟩, ⟨(PyData.keyHash P (.ofString "__doc__")), (.str (.ofString "__doc__") (nat_lit 249)), .none⟩] (nat_lit 4)), #[]⟩ :: ⟨(.type "type"), none, (.cls ⟨(.ofString "Pattern"), [(.type "object")], [(.ref (nat_lit 54)), (.type "object")], (nat_lit 53), (.ofString "Pattern"), true, [], [], false, none, false⟩), #[none, none, (some (.str (.ofString "Pattern") (nat_lit 223))), (some (.str (.ofString "Pattern") (nat_lit 231))), (some (.builtin "object.__new__")), (some (.bool true))]⟩ :: ⟨(.type "getset_descriptor"), none, (.fields #[(.str (.ofString "__dict__") (nat_lit 245)), (.ref (nat_lit 54)), (.builtin "function.__dict__"), (.builtin "function.__dict__#set")]), #[]⟩ :: ⟨(.type "getset_descriptor"), none, (.fields #[(.str (.ofString "__weakref__") (nat_lit 247)), (.ref (nat_lit 54)), (.builtin "ExceptionGroup.__weakref__"), .none]), #[]⟩ :: ⟨(.type "super"), none, (.fields #[(.ref (nat_lit 54)), (.ref (nat_lit 54)), (.ref (nat_lit 54))]), #[]⟩ :: ⟨(.type "builtin_function_or_method"), none, (.fields #[(.builtin "object.__init_subclass__"), (.ref (nat_lit 54))]), #[]⟩ :: t
noncomputable def c3 (P : Params) (t : List Obj) : List Obj := ⟨(.type "tuple"), none, (.seq #[] (nat_lit 0)), #[]⟩ :: ⟨(.type "builtin_function_or_method"), none, (.fields #[(.builtin "type.__prepare__"), (.type "type")]), #[]⟩ :: ⟨(.type "dict"), none, (.dict #[⟨(PyData.keyHash P (.ofString "__module__")), (.str (.ofString "__module__") (nat_lit 259)), (.str (.ofString "snobol.values") (nat_lit 187))⟩, ⟨(PyData.keyHash P (.ofString "__qualname__")), (.str (.ofString "__qualname__") (nat_lit 261)), (.str (.ofString "Delayed") (nat_lit 260))⟩, ⟨(PyData.keyHash P (.ofString "__firstlineno__")), (.str (.ofString "__firstlineno__") (nat_lit 263)), (.int (.ofNat (nat_lit 12)) (nat_lit 262))⟩, ⟨(PyData.keyHash P (.ofString "__init__")), (.str (.ofString "__init__") (nat_lit 271)), (.ref (nat_lit 72))⟩, ⟨(PyData.keyHash P (.ofString "__static_attributes__")), (.str (.ofString "__static_attributes__") (nat_lit 273)), (.ref (nat_lit 73))⟩] (nat_lit 5)), #[]⟩ :: ⟨(.type "tuple"), none, (.seq #[] (nat_lit 0)), #[]⟩ :: ⟨.none, none, (.fields #[(.int (.ofNat (nat_lit 14)) (nat_lit 0)), (.int (.ofNat (nat_lit 4)) (nat_lit 0)), (.ref (nat_lit 71))]), #[]⟩ :: ⟨(.type "code"), none, (.fields #[(.str (.ofString "Delayed") (nat_lit 254)), (.str (.ofString "Delayed") (nat_lit 255)), (.str (.ofString "/claim/cut.py") (nat_lit 256)), (.int (.ofNat (nat_lit 12)) (nat_lit 0)), (.int (.ofNat (nat_lit 0)) (nat_lit 0)), (.int (.ofNat (nat_lit 0)) (nat_lit 0)), (.int (.ofNat (nat_lit 0)) (nat_lit 0)), (.int (.ofNat (nat_lit 0)) (nat_lit 0)), (.ref (nat_lit 62)), (.bool false), (.int (.ofNat (nat_lit 181)) (nat_lit 0)), (.ref (nat_lit 63)), .none, .none, .none, .none, (.int (.ofNat (nat_lit 257)) (nat_lit 0)), (.int (.ofNat (nat_lit 12)) (nat_lit 0)), (.str (.ofString "/claim/cut.py") (nat_lit 258))]), #[]⟩ :: ⟨(.type "frame"), none, .plain, #[(some (.ref (nat_lit 64))), (some (.ref (nat_lit 3))), (some (.ref (nat_lit 61))), none, (some (.str (.ofString "snobol.values") (nat_lit 187))), none, (some (.ref (nat_lit 0)))]⟩ :: ⟨(.type "tuple"), none, (.seq #[] (nat_lit 0)), #[]⟩ :: ⟨.none, none, (.fields #[]), #[]⟩ :: ⟨(.type "tuple"), none, (.seq #[(.str (.ofString "self") (nat_lit 267)), (.str (.ofString "tree") (nat_lit 268))] (nat_lit 0)), #[]⟩ :: ⟨(.type "tuple"), none, (.seq #[] (nat_lit 0)), #[]⟩ :: ⟨.none, none, (.func ⟨(.ofString "__init__"), (.ofString "Delayed.__init__"), (aOf (sub (nat_lit 3) (nat_lit 0))), (.stmts (bOf (sub (nat_lit 3) (nat_lit 0)))), (sOf (sub (nat_lit 3) (nat_lit 0))), (nat_lit 0), [], .none, .none, .none, .none, none, .none, .none, (nat_lit 0)⟩), #[]⟩ :: ⟨(.type "code"), none, (.fields #[(.str (.ofString "__init__") (nat_lit 264)), (.str (.ofString "Delayed.__init__") (nat_lit 265)), (.str (.ofString "/claim/cut.py") (nat_lit 266)), (.int (.ofNat (nat_lit 14)) (nat_lit 0)), (.int (.ofNat (nat_lit 2)) (nat_lit 0)), (.int (.ofNat (nat_lit 0)) (nat_lit 0)), (.int (.ofNat (nat_lit 0)) (nat_lit 0)), (.int (.ofNat (nat_lit 3)) (nat_lit 0)), (.ref (nat_lit 66)), (.bool true), (.int (.ofNat (nat_lit 181)) (nat_lit 0)), (.ref (nat_lit 67)), .none, (.ref (nat_lit 68)), (.ref (nat_lit 69)), (.ref (nat_lit 70)), (.int (.ofNat (nat_lit 269)) (nat_lit 0)), (.int (.ofNat (nat_lit 14)) (nat_lit 0)), (.str (.ofString "/claim/cut.py") (nat_lit 270))]), #[]⟩ :: ⟨(.type "function"), none, (.func ⟨(.ofString "__init__"), (.ofString "Delayed.__init__"), (aOf (sub (nat_lit 3) (nat_lit 0))), (.stmts (bOf (sub (nat_lit 3) (nat_lit 0)))), (sOf (sub (nat_lit 3) (nat_lit 0))), (nat_lit 3), [], .none, .none, .none, (.str (.ofString "snobol.values") (nat_lit 187)), none, (.ref (nat_lit 71)), .none, (nat_lit 0)⟩), #[]⟩ :: ⟨(.type "tuple"), none, (.seq #[(.str (.ofString "tree") (nat_lit 272))] (nat_lit 0)), #[]⟩ :: ⟨(.type "dict"), none, (.dict #[⟨(PyData.keyHash P (.ofString "__module__")), (.str (.ofString "__module__") (nat_lit 259)), (.str (.ofString "snobol.values") (nat_lit 187))⟩, ⟨(PyData.keyHash P (.ofString "__firstlineno__")), (.str (.ofString "__firstlineno__") (nat_lit 263)), (.int (.ofNat (nat_lit 12)) (nat_lit 262))⟩, ⟨(PyData.keyHash P (.ofString "__init__")), (.str (.ofString "__init__") (nat_lit 271)), (.ref (nat_lit 72))⟩, ⟨(PyData.keyHash P (.ofString "__static_attributes__")), (.str (.ofString "__static_attributes__") (nat_lit 273)), (.ref (nat_lit 73))⟩, ⟨(PyData.keyHash P (.ofString "__dict__")), (.str (.ofString "__dict__") (nat_lit 275)), (.ref (nat_lit 76))⟩, ⟨(PyData.keyHash P (.ofString "__weakref__")), (.str (.ofString "__weakref__") (nat_lit 277)), (.ref (nat_lit 77))⟩, ⟨(PyData.keyHash P (.ofString "__doc__")), (.str (.ofString "__doc__") (nat_lit 278)), .none⟩] (nat_lit 4)), #[]⟩ :: ⟨(.type "type"), none, (.cls ⟨(.ofString "Delayed"), [(.type "object")], [(.ref (nat_lit 75)), (.type "object")], (nat_lit 74), (.ofString "Delayed"), true, [], [], false, none, false⟩), #[none, none, (some (.str (.ofString "Delayed") (nat_lit 252))), (some (.str (.ofString "Delayed") (nat_lit 260))), (some (.builtin "object.__new__")), (some (.bool true))]⟩ :: ⟨(.type "getset_descriptor"), none, (.fields #[(.str (.ofString "__dict__") (nat_lit 274)), (.ref (nat_lit 75)), (.builtin "function.__dict__"), (.builtin "function.__dict__#set")]), #[]⟩ :: ⟨(.type "getset_descriptor"), none, (.fields #[(.str (.ofString "__weakref__") (nat_lit 276)), (.ref (nat_lit 75)), (.builtin "ExceptionGroup.__weakref__"), .none]), #[]⟩ :: ⟨(.type "super"), none, (.fields #[(.ref (nat_lit 75)), (.ref (nat_lit 75)), (.ref (nat_lit 75))]), #[]⟩ :: ⟨(.type "builtin_function_or_method"), none, (.fields #[(.builtin "object.__init_subclass__"), (.ref (nat_lit 75))]), #[]⟩ :: ⟨(.type "tuple"), none, (.seq #[] (nat_lit 0)), #[]⟩ :: ⟨(.type "builtin_function_or_method"), none, (.fields #[(.builtin "type.__prepare__"), (.type "type")]), #[]⟩ :: ⟨(.type "dict"), none, (.dict #[⟨(PyData.keyHash P (.ofString "__module__")), (.str (.ofString "__module__") (nat_lit 288)), (.str (.ofString "snobol.values") (nat_lit 187))⟩, ⟨(PyData.keyHash P (.ofString "__qualname__")), (.str (.ofString "__qualname__") (nat_lit 290)), (.str (.ofString "Code") (nat_lit 289))⟩, ⟨(PyData.keyHash P (.ofString "__firstlineno__")), (.str (.ofString "__firstlineno__") (nat_lit 292)), (.int (.ofNat (nat_lit 16)) (nat_lit 291))⟩, ⟨(PyData.keyHash P (.ofString "__init__")), (.str (.ofString "__init__") (nat_lit 300)), (.ref (nat_lit 93))⟩, ⟨(PyData.keyHash P (.ofString "__static_attributes__")), (.str (.ofString "__static_attributes__") (nat_lit 302)), (.ref (nat_lit 94))⟩] (nat_lit 5)), #[]⟩ :: ⟨(.type "tuple"), none, (.seq #[] (nat_lit 0)), #[]⟩ :: ⟨.none, none, (.fields #[(.int (.ofNat (nat_lit 18)) (nat_lit 0)), (.int (.ofNat (nat_lit 4)) (nat_lit 0)), (.ref (nat_lit 92))]), #[]⟩ :: ⟨(.type "code"), none, (.fields #[(.str (.ofString "Code") (nat_lit 283)), (.str (.ofString "Code") (nat_lit 284)), (.str (.ofString "/claim/cut.py") (nat_lit 285)), (.int (.ofNat (nat_lit 16)) (nat_lit 0)), (.int (.ofNat (nat_lit 0)) (nat_lit 0)), (.int (.ofNat (nat_lit 0)) (nat_lit 0)), (.int (.ofNat (nat_lit 0)) (nat_lit 0)), (.int (.ofNat (nat_lit 0)) (nat_lit 0)), (.ref (nat_lit 83)), (.bool false), (.int (.ofNat (nat_lit 181)) (nat_lit 0)), (.ref (nat_lit 84)), .none, .none, .none, .none, (.int (.ofNat (nat_lit 286)) (nat_lit 0)), (.int (.ofNat (nat_lit 16)) (nat_lit 0)), (.str (.ofString "/claim/cut.py") (nat_lit 287))]), #[]⟩ :: ⟨(.type "frame"), none, .plain, #[(some (.ref (nat_lit 85))), (some (.ref (nat_lit 3))), (some (.ref (nat_lit 82))), none, (some (.str (.ofString "snobol.values") (nat_lit 187))), none, (some (.ref (nat_lit 0)))]⟩ :: ⟨(.type "tuple"), none, (.seq #[] (nat_lit 0)), #[]⟩ :: ⟨.none, none, (.fields #[]), #[]⟩ :: ⟨(.type "tuple"), none, (.seq #[(.str (.ofString "self") (nat_lit 296)), (.str (.ofString "begin") (nat_lit 297))] (nat_lit 0)), #[]⟩ :: ⟨(.type "tuple"), none, (.seq #[] (nat_lit 0)), #[]⟩ :: ⟨.none, none, (.func ⟨(.ofString "__init__"), (.ofString "Code.__init__"), (aOf (sub (nat_lit 4) (nat_lit 0))), (.stmts (bOf (sub (nat_lit 4) (nat_lit 0)))), (sOf (sub (nat_lit 4) (nat_lit 0))), (nat_lit 0), [], .none, .none, .none, .none, none, .none, .none, (nat_lit 0)⟩), #[]⟩ :: ⟨(.type "code"), none, (.fields #[(.str (.ofString "__init__") (nat_lit 293)), (.str (.ofString "Code.__init__") (nat_lit 294)), (.str (.ofString "/claim/cut.py") (nat_lit 295)), (.int (.ofNat (nat_lit 18)) (nat_lit 0)), (.int (.ofNat (nat_lit 2)) (nat_lit 0)), (.int (.ofNat (nat_lit 0)) (nat_lit 0)), (.int (.ofNat (nat_lit 0)) (nat_lit 0)), (.int (.ofNat (nat_lit 3)) (nat_lit 0)), (.ref (nat_lit 87)), (.bool true), (.int (.ofNat (nat_lit 181)) (nat_lit 0)), (.ref (nat_lit 88)), .none, (.ref (nat_lit 89)), (.ref (nat_lit 90)), (.ref (nat_lit 91)), (.int (.ofNat (nat_lit 298)) (nat_lit 0)), (.int (.ofNat (nat_lit 18)) (nat_lit 0)), (.str (.ofString "/claim/cut.py") (nat_lit 299))]), #[]⟩ :: ⟨(.type "function"), none, (.func ⟨(.ofString "__init__"), (.ofString "Code.__init__"), (aOf (sub (nat_lit 4) (nat_lit 0))), (.stmts (bOf (sub (nat_lit 4) (nat_lit 0)))), (sOf (sub (nat_lit 4) (nat_lit 0))), (nat_lit 3), [], .none, .none, .none, (.str (.ofString "snobol.values") (nat_lit 187)), none, (.ref (nat_lit 92)), .none, (nat_lit 0)⟩), #[]⟩ :: ⟨(.type "tuple"), none, (.seq #[(.str (.ofString "begin") (nat_lit 301))] (nat_lit 0)), #[]⟩ :: ⟨(.type "dict"), none, (.dict #[⟨(PyData.keyHash P (.ofString "__module__")), (.str (.ofString "__module__") (nat_lit 288)), (.str (.ofString "snobol.values") (nat_lit 187))⟩, ⟨(PyData.keyHash P (.ofString "__firstlineno__")), (.str (.ofString "__firstlineno__") (nat_lit 292)), (.int (.ofNat (nat_lit 16)) (nat_lit 291))⟩, ⟨(PyData.keyHash P (.ofString "__init__")), (.str (.ofString "__init__") (nat_lit 300)), (.ref (nat_lit 93))⟩, ⟨(PyData.keyHash P (.ofString "__static_attributes__")), (.str (.ofString "__static_attributes__") (nat_lit 302)), (.ref (nat_lit 94))⟩, ⟨(PyData.keyHash P (.ofString "__dict__")), (.str (.ofString "__dict__") (nat_lit 304)), (.ref (nat_lit 97))⟩, ⟨(PyData.keyHash P (.ofString "__weakref__")), (.str (.ofString "__weakref__") (nat_lit 306)), (.ref (nat_lit 98))⟩, ⟨(PyData.keyHash P (.ofString "__doc__")), (.str (.ofString "__doc__") (nat_lit 307)), .none⟩] (nat_lit 4)), #[]⟩ :: ⟨(.type "type"), none, (.cls ⟨(.ofString "Code"), [(.type "object")], [(.ref (nat_lit 96)), (.type "object")], (nat_lit 95), (.ofString "Code"), true, [], [], false, none, false⟩), #[none, none, (some (.str (.ofString "Code") (nat_lit 281))), (some (.str (.ofString "Code") (nat_lit 289))), (some (.builtin "object.__new__")), (some (.bool true))]⟩ :: ⟨(.type "getset_descriptor"), none, (.fields #[(.str (.ofString "__dict__") (nat_lit 303)), (.ref (nat_lit 96)), (.builtin "function.__dict__"), (.builtin "function.__dict__#set")]), #[]⟩ :: ⟨(.type "getset_descriptor"), none, (.fields #[(.str (.ofString "__weakref__") (nat_lit 305)), (.ref (nat_lit 96)), (.builtin "ExceptionGroup.__weakref__"), .none]), #[]⟩ :: ⟨(.type "super"), none, (.fields #[(.ref (nat_lit 96)), (.ref (nat_lit 96)), (.ref (nat_lit 96))]), #[]⟩ :: ⟨(.type "builtin_function_or_method"), none, (.fields #[(.builtin "object.__init_subclass__"), (.ref (nat_lit 96))]), #[]⟩ :: t
noncomputable def c4 (P : Params) (o138 : Obj) (t : List Obj) : List Obj := ⟨(.type "tuple"), none, (.seq #[] (nat_lit 0)), #[]⟩ :: ⟨(.type "builtin_function_or_method"), none, (.fields #[(.builtin "type.__prepare__"), (.type "type")]), #[]⟩ :: ⟨(.type "dict"), none, (.dict #[⟨(PyData.keyHash P (.ofString "__module__")), (.str (.ofString "__module__") (nat_lit 317)), (.str (.ofString "snobol.values") (nat_lit 187))⟩, ⟨(PyData.keyHash P (.ofString "__qualname__")), (.str (.ofString "__qualname__") (nat_lit 319)), (.str (.ofString "NameRef") (nat_lit 318))⟩, ⟨(PyData.keyHash P (.ofString "__firstlineno__")), (.str (.ofString "__firstlineno__") (nat_lit 321)), (.int (.ofNat (nat_lit 20)) (nat_lit 320))⟩, ⟨(PyData.keyHash P (.ofString "__init__")), (.str (.ofString "__init__") (nat_lit 331)), (.ref (nat_lit 114))⟩, ⟨(PyData.keyHash P (.ofString "__static_attributes__")), (.str (.ofString "__static_attributes__") (nat_lit 335)), (.ref (nat_lit 115))⟩] (nat_lit 5)), #[]⟩ :: ⟨(.type "tuple"), none, (.seq #[] (nat_lit 0)), #[]⟩ :: ⟨.none, none, (.fields #[(.int (.ofNat (nat_lit 22)) (nat_lit 0)), (.int (.ofNat (nat_lit 4)) (nat_lit 0)), (.ref (nat_lit 113))]), #[]⟩ :: ⟨(.type "code"), none, (.fields #[(.str (.ofString "NameRef") (nat_lit 312)), (.str (.ofString "NameRef") (nat_lit 313)), (.str (.ofString "/claim/cut.py") (nat_lit 314)), (.int (.ofNat (nat_lit 20)) (nat_lit 0)), (.int (.ofNat (nat_lit 0)) (nat_lit 0)), (.int (.ofNat (nat_lit 0)) (nat_lit 0)), (.int (.ofNat (nat_lit 0)) (nat_lit 0)), (.int (.ofNat (nat_lit 0)) (nat_lit 0)), (.ref (nat_lit 104)), (.bool false), (.int (.ofNat (nat_lit 181)) (nat_lit 0)), (.ref (nat_lit 105)), .none, .none, .none, .none, (.int (.ofNat (nat_lit 315)) (nat_lit 0)), (.int (.ofNat (nat_lit 20)) (nat_lit 0)), (.str (.ofString "/claim/cut.py") (nat_lit 316))]), #[]⟩ :: ⟨(.type "frame"), none, .plain, #[(some (.ref (nat_lit 106))), (some (.ref (nat_lit 3))), (some (.ref (nat_lit 103))), none, (some (.str (.ofString "snobol.values") (nat_lit 187))), none, (some (.ref (nat_lit 0)))]⟩ :: ⟨(.type "tuple"), none, (.seq #[] (nat_lit 0)), #[]⟩ :: ⟨.none, none, (.fields #[]), #[]⟩ :: ⟨(.type "tuple"), none, (.seq #[(.str (.ofString "self") (nat_lit 325)), (.str (.ofString "kind") (nat_lit 326)), (.str (.ofString "owner") (nat_lit 327)), (.str (.ofString "key") (nat_lit 328))] (nat_lit 0)), #[]⟩ :: ⟨(.type "tuple"), none, (.seq #[] (nat_lit 0)), #[]⟩ :: ⟨.none, none, (.func ⟨(.ofString "__init__"), (.ofString "NameRef.__init__"), (aOf (sub (nat_lit 5) (nat_lit 0))), (.stmts (bOf (sub (nat_lit 5) (nat_lit 0)))), (sOf (sub (nat_lit 5) (nat_lit 0))), (nat_lit 0), [], .none, .none, .none, .none, none, .none, .none, (nat_lit 0)⟩), #[]⟩ :: ⟨(.type "code"), none, (.fields #[(.str (.ofString "__init__") (nat_lit 322)), (.str (.ofString "NameRef.__init__") (nat_lit 323)), (.str (.ofString "/claim/cut.py") (nat_lit 324)), (.int (.ofNat (nat_lit 22)) (nat_lit 0)), (.int (.ofNat (nat_lit 4)) (nat_lit 0)), (.int (.ofNat (nat_lit 0)) (nat_lit 0)), (.int (.ofNat (nat_lit 0)) (nat_lit 0)), (.int (.ofNat (nat_lit 3)) (nat_lit 0)), (.ref (nat_lit 108)), (.bool true), (.int (.ofNat (nat_lit 181)) (nat_lit 0)), (.ref (nat_lit 109)), .none, (.ref (nat_lit 110)), (.ref (nat_lit 111)), (.ref (nat_lit 112)), (.int (.ofNat (nat_lit 329)) (nat_lit 0)), (.int (.ofNat (nat_lit 22)) (nat_lit 0)), (.str (.ofString "/claim/cut.py") (nat_lit 330))]), #[]⟩ :: ⟨(.type "function"), none, (.func ⟨(.ofString "__init__"), (.ofString "NameRef.__init__"), (aOf (sub (nat_lit 5) (nat_lit 0))), (.stmts (bOf (sub (nat_lit 5) (nat_lit 0)))), (sOf (sub (nat_lit 5) (nat_lit 0))), (nat_lit 3), [], .none, .none, .none, (.str (.ofString "snobol.values") (nat_lit 187)), none, (.ref (nat_lit 113)), .none, (nat_lit 0)⟩), #[]⟩ :: ⟨(.type "tuple"), none, (.seq #[(.str (.ofString "key") (nat_lit 332)), (.str (.ofString "kind") (nat_lit 333)), (.str (.ofString "owner") (nat_lit 334))] (nat_lit 0)), #[]⟩ :: ⟨(.type "dict"), none, (.dict #[⟨(PyData.keyHash P (.ofString "__module__")), (.str (.ofString "__module__") (nat_lit 317)), (.str (.ofString "snobol.values") (nat_lit 187))⟩, ⟨(PyData.keyHash P (.ofString "__firstlineno__")), (.str (.ofString "__firstlineno__") (nat_lit 321)), (.int (.ofNat (nat_lit 20)) (nat_lit 320))⟩, ⟨(PyData.keyHash P (.ofString "__init__")), (.str (.ofString "__init__") (nat_lit 331)), (.ref (nat_lit 114))⟩, ⟨(PyData.keyHash P (.ofString "__static_attributes__")), (.str (.ofString "__static_attributes__") (nat_lit 335)), (.ref (nat_lit 115))⟩, ⟨(PyData.keyHash P (.ofString "__dict__")), (.str (.ofString "__dict__") (nat_lit 337)), (.ref (nat_lit 118))⟩, ⟨(PyData.keyHash P (.ofString "__weakref__")), (.str (.ofString "__weakref__") (nat_lit 339)), (.ref (nat_lit 119))⟩, ⟨(PyData.keyHash P (.ofString "__doc__")), (.str (.ofString "__doc__") (nat_lit 340)), .none⟩] (nat_lit 4)), #[]⟩ :: ⟨(.type "type"), none, (.cls ⟨(.ofString "NameRef"), [(.type "object")], [(.ref (nat_lit 117)), (.type "object")], (nat_lit 116), (.ofString "NameRef"), true, [], [], false, none, false⟩), #[none, none, (some (.str (.ofString "NameRef") (nat_lit 310))), (some (.str (.ofString "NameRef") (nat_lit 318))), (some (.builtin "object.__new__")), (some (.bool true))]⟩ :: ⟨(.type "getset_descriptor"), none, (.fields #[(.str (.ofString "__dict__") (nat_lit 336)), (.ref (nat_lit 117)), (.builtin "function.__dict__"), (.builtin "function.__dict__#set")]), #[]⟩ :: ⟨(.type "getset_descriptor"), none, (.fields #[(.str (.ofString "__weakref__") (nat_lit 338)), (.ref (nat_lit 117)), (.builtin "ExceptionGroup.__weakref__"), .none]), #[]⟩ :: ⟨(.type "super"), none, (.fields #[(.ref (nat_lit 117)), (.ref (nat_lit 117)), (.ref (nat_lit 117))]), #[]⟩ :: ⟨(.type "builtin_function_or_method"), none, (.fields #[(.builtin "object.__init_subclass__"), (.ref (nat_lit 117))]), #[]⟩ :: ⟨(.type "tuple"), none, (.seq #[] (nat_lit 0)), #[]⟩ :: ⟨(.type "builtin_function_or_method"), none, (.fields #[(.builtin "type.__prepare__"), (.type "type")]), #[]⟩ :: ⟨(.type "dict"), none, (.dict #[⟨(PyData.keyHash P (.ofString "__module__")), (.str (.ofString "__module__") (nat_lit 350)), (.str (.ofString "snobol.values") (nat_lit 187))⟩, ⟨(PyData.keyHash P (.ofString "__qualname__")), (.str (.ofString "__qualname__") (nat_lit 352)), (.str (.ofString "Holder") (nat_lit 351))⟩, ⟨(PyData.keyHash P (.ofString "__firstlineno__")), (.str (.ofString "__firstlineno__") (nat_lit 354)), (.int (.ofNat (nat_lit 26)) (nat_lit 353))⟩, ⟨(PyData.keyHash P (.ofString "__init__")), (.str (.ofString "__init__") (nat_lit 363)), (.ref (nat_lit 135))⟩, ⟨(PyData.keyHash P (.ofString "__static_attributes__")), (.str (.ofString "__static_attributes__") (nat_lit 367)), (.ref (nat_lit 136))⟩] (nat_lit 5)), #[]⟩ :: ⟨(.type "tuple"), none, (.seq #[] (nat_lit 0)), #[]⟩ :: ⟨.none, none, (.fields #[(.int (.ofNat (nat_lit 28)) (nat_lit 0)), (.int (.ofNat (nat_lit 4)) (nat_lit 0)), (.ref (nat_lit 134))]), #[]⟩ :: ⟨(.type "code"), none, (.fields #[(.str (.ofString "Holder") (nat_lit 345)), (.str (.ofString "Holder") (nat_lit 346)), (.str (.ofString "/claim/cut.py") (nat_lit 347)), (.int (.ofNat (nat_lit 26)) (nat_lit 0)), (.int (.ofNat (nat_lit 0)) (nat_lit 0)), (.int (.ofNat (nat_lit 0)) (nat_lit 0)), (.int (.ofNat (nat_lit 0)) (nat_lit 0)), (.int (.ofNat (nat_lit 0)) (nat_lit 0)), (.ref (nat_lit 125)), (.bool false), (.int (.ofNat (nat_lit 181)) (nat_lit 0)), (.ref (nat_lit 126)), .none, .none, .none, .none, (.int (.ofNat (nat_lit 348)) (nat_lit 0)), (.int (.ofNat (nat_lit 26)) (nat_lit 0)), (.str (.ofString "/claim/cut.py") (nat_lit 349))]), #[]⟩ :: ⟨(.type "frame"), none, .plain, #[(some (.ref (nat_lit 127))), (some (.ref (nat_lit 3))), (some (.ref (nat_lit 124))), none, (some (.str (.ofString "snobol.values") (nat_lit 187))), none, (some (.ref (nat_lit 0)))]⟩ :: ⟨(.type "tuple"), none, (.seq #[] (nat_lit 0)), #[]⟩ :: ⟨.none, none, (.fields #[]), #[]⟩ :: ⟨(.type "tuple"), none, (.seq #[(.str (.ofString "self") (nat_lit 358)), (.str (.ofString "word") (nat_lit 359)), (.str (.ofString "number") (nat_lit 360))] (nat_lit 0)), #[]⟩ :: ⟨(.type "tuple"), none, (.seq #[] (nat_lit 0)), #[]⟩ :: ⟨.none, none, (.func ⟨(.ofString "__init__"), (.ofString "Holder.__init__"), (aOf (sub (nat_lit 6) (nat_lit 0))), (.stmts (bOf (sub (nat_lit 6) (nat_lit 0)))), (sOf (sub (nat_lit 6) (nat_lit 0))), (nat_lit 0), [], .none, .none, .none, .none, none, .none, .none, (nat_lit 0)⟩), #[]⟩ :: ⟨(.type "code"), none, (.fields #[(.str (.ofString "__init__") (nat_lit 355)), (.str (.ofString "Holder.__init__") (nat_lit 356)), (.str (.ofString "/claim/cut.py") (nat_lit 357)), (.int (.ofNat (nat_lit 28)) (nat_lit 0)), (.int (.ofNat (nat_lit 3)) (nat_lit 0)), (.int (.ofNat (nat_lit 0)) (nat_lit 0)), (.int (.ofNat (nat_lit 0)) (nat_lit 0)), (.int (.ofNat (nat_lit 3)) (nat_lit 0)), (.ref (nat_lit 129)), (.bool true), (.int (.ofNat (nat_lit 181)) (nat_lit 0)), (.ref (nat_lit 130)), .none, (.ref (nat_lit 131)), (.ref (nat_lit 132)), (.ref (nat_lit 133)), (.int (.ofNat (nat_lit 361)) (nat_lit 0)), (.int (.ofNat (nat_lit 28)) (nat_lit 0)), (.str (.ofString "/claim/cut.py") (nat_lit 362))]), #[]⟩ :: ⟨(.type "function"), none, (.func ⟨(.ofString "__init__"), (.ofString "Holder.__init__"), (aOf (sub (nat_lit 6) (nat_lit 0))), (.stmts (bOf (sub (nat_lit 6) (nat_lit 0)))), (sOf (sub (nat_lit 6) (nat_lit 0))), (nat_lit 3), [], .none, .none, .none, (.str (.ofString "snobol.values") (nat_lit 187)), none, (.ref (nat_lit 134)), .none, (nat_lit 0)⟩), #[]⟩ :: ⟨(.type "tuple"), none, (.seq #[(.str (.ofString "mark") (nat_lit 364)), (.str (.ofString "number") (nat_lit 365)), (.str (.ofString "word") (nat_lit 366))] (nat_lit 0)), #[]⟩ :: ⟨(.type "dict"), none, (.dict #[⟨(PyData.keyHash P (.ofString "__module__")), (.str (.ofString "__module__") (nat_lit 350)), (.str (.ofString "snobol.values") (nat_lit 187))⟩, ⟨(PyData.keyHash P (.ofString "__firstlineno__")), (.str (.ofString "__firstlineno__") (nat_lit 354)), (.int (.ofNat (nat_lit 26)) (nat_lit 353))⟩, ⟨(PyData.keyHash P (.ofString "__init__")), (.str (.ofString "__init__") (nat_lit 363)), (.ref (nat_lit 135))⟩, ⟨(PyData.keyHash P (.ofString "__static_attributes__")), (.str (.ofString "__static_attributes__") (nat_lit 367)), (.ref (nat_lit 136))⟩, ⟨(PyData.keyHash P (.ofString "__dict__")), (.str (.ofString "__dict__") (nat_lit 369)), (.ref (nat_lit 139))⟩, ⟨(PyData.keyHash P (.ofString "__weakref__")), (.str (.ofString "__weakref__") (nat_lit 371)), (.ref (nat_lit 140))⟩, ⟨(PyData.keyHash P (.ofString "__doc__")), (.str (.ofString "__doc__") (nat_lit 372)), .none⟩] (nat_lit 4)), #[]⟩ :: o138 :: ⟨(.type "getset_descriptor"), none, (.fields #[(.str (.ofString "__dict__") (nat_lit 368)), (.ref (nat_lit 138)), (.builtin "function.__dict__"), (.builtin "function.__dict__#set")]), #[]⟩ :: ⟨(.type "getset_descriptor"), none, (.fields #[(.str (.ofString "__weakref__") (nat_lit 370)), (.ref (nat_lit 138)), (.builtin "ExceptionGroup.__weakref__"), .none]), #[]⟩ :: ⟨(.type "super"), none, (.fields #[(.ref (nat_lit 138)), (.ref (nat_lit 138)), (.ref (nat_lit 138))]), #[]⟩ :: ⟨(.type "builtin_function_or_method"), none, (.fields #[(.builtin "object.__init_subclass__"), (.ref (nat_lit 138))]), #[]⟩ :: t
noncomputable def c5 (P : Params) (t : List Obj) : List Obj := ⟨(.type "tuple"), none, (.seq #[] (nat_lit 0)), #[]⟩ :: ⟨.none, none, (.fields #[]), #[]⟩ :: ⟨(.type "tuple"), none, (.seq #[(.str (.ofString "value") (nat_lit 378))] (nat_lit 0)), #[]⟩ :: ⟨(.type "tuple"), none, (.seq #[] (nat_lit 0)), #[]⟩ :: ⟨.none, none, (.func ⟨(.ofString "kind_of"), (.ofString "kind_of"), (aOf (top (nat_lit 7))), (.stmts (bOf (top (nat_lit 7)))), (sOf (top (nat_lit 7))), (nat_lit 0), [], .none, .none, .none, .none, none, .none, .none, (nat_lit 0)⟩), #[]⟩ :: ⟨(.type "code"), none, (.fields #[(.str (.ofString "kind_of") (nat_lit 375)), (.str (.ofString "kind_of") (nat_lit 376)), (.str (.ofString "/claim/cut.py") (nat_lit 377)), (.int (.ofNat (nat_lit 32)) (nat_lit 0)), (.int (.ofNat (nat_lit 1)) (nat_lit 0)), (.int (.ofNat (nat_lit 0)) (nat_lit 0)), (.int (.ofNat (nat_lit 0)) (nat_lit 0)), (.int (.ofNat (nat_lit 3)) (nat_lit 0)), (.ref (nat_lit 143)), (.bool true), (.int (.ofNat (nat_lit 181)) (nat_lit 0)), (.ref (nat_lit 144)), .none, (.ref (nat_lit 145)), (.ref (nat_lit 146)), (.ref (nat_lit 147)), (.int (.ofNat (nat_lit 379)) (nat_lit 0)), (.int (.ofNat (nat_lit 32)) (nat_lit 0)), (.str (.ofString "/claim/cut.py") (nat_lit 380))]), #[]⟩ :: ⟨(.type "function"), none, (.func ⟨(.ofString "kind_of"), (.ofString "kind_of"), (aOf (top (nat_lit 7))), (.stmts (bOf (top (nat_lit 7)))), (sOf (top (nat_lit 7))), (nat_lit 3), [], .none, .none, .none, (.str (.ofString "snobol.values") (nat_lit 187)), none, (.ref (nat_lit 148)), .none, (nat_lit 0)⟩), #[]⟩ :: ⟨(.type "tuple"), none, (.seq #[] (nat_lit 0)), #[]⟩ :: ⟨.none, none, (.fields #[]), #[]⟩ :: ⟨(.type "tuple"), none, (.seq #[(.str (.ofString "number") (nat_lit 385)), (.str (.ofString "left") (nat_lit 386)), (.str (.ofString "found") (nat_lit 387))] (nat_lit 0)), #[]⟩ :: ⟨(.type "tuple"), none, (.seq #[] (nat_lit 0)), #[]⟩ :: ⟨.none, none, (.func ⟨(.ofString "text_of_whole"), (.ofString "text_of_whole"), (aOf (top (nat_lit 8))), (.stmts (bOf (top (nat_lit 8)))), (sOf (top (nat_lit 8))), (nat_lit 0), [], .none, .none, .none, .none, none, .none, .none, (nat_lit 0)⟩), #[]⟩ :: ⟨(.type "code"), none, (.fields #[(.str (.ofString "text_of_whole") (nat_lit 382)), (.str (.ofString "text_of_whole") (nat_lit 383)), (.str (.ofString "/claim/cut.py") (nat_lit 384)), (.int (.ofNat (nat_lit 46)) (nat_lit 0)), (.int (.ofNat (nat_lit 1)) (nat_lit 0)), (.int (.ofNat (nat_lit 0)) (nat_lit 0)), (.int (.ofNat (nat_lit 0)) (nat_lit 0)), (.int (.ofNat (nat_lit 3)) (nat_lit 0)), (.ref (nat_lit 150)), (.bool true), (.int (.ofNat (nat_lit 181)) (nat_lit 0)), (.ref (nat_lit 151)), .none, (.ref (nat_lit 152)), (.ref (nat_lit 153)), (.ref (nat_lit 154)), (.int (.ofNat (nat_lit 388)) (nat_lit 0)), (.int (.ofNat (nat_lit 46)) (nat_lit 0)), (.str (.ofString "/claim/cut.py") (nat_lit 389))]), #[]⟩ :: ⟨(.type "function"), none, (.func ⟨(.ofString "text_of_whole"), (.ofString "text_of_whole"), (aOf (top (nat_lit 8))), (.stmts (bOf (top (nat_lit 8)))), (sOf (top (nat_lit 8))), (nat_lit 3), [], .none, .none, .none, (.str (.ofString "snobol.values") (nat_lit 187)), none, (.ref (nat_lit 155)), .none, (nat_lit 0)⟩), #[]⟩ :: ⟨(.type "tuple"), none, (.seq #[] (nat_lit 0)), #[]⟩ :: ⟨.none, none, (.fields #[]), #[]⟩ :: ⟨(.type "tuple"), none, (.seq #[(.str (.ofString "value") (nat_lit 394))] (nat_lit 0)), #[]⟩ :: ⟨(.type "tuple"), none, (.seq #[] (nat_lit 0)), #[]⟩ :: ⟨.none, none, (.func ⟨(.ofString "to_text"), (.ofString "to_text"), (aOf (top (nat_lit 9))), (.stmts (bOf (top (nat_lit 9)))), (sOf (top (nat_lit 9))), (nat_lit 0), [], .none, .none, .none, .none, none, .none, .none, (nat_lit 0)⟩), #[]⟩ :: ⟨(.type "code"), none, (.fields #[(.str (.ofString "to_text") (nat_lit 391)), (.str (.ofString "to_text") (nat_lit 392)), (.str (.ofString "/claim/cut.py") (nat_lit 393)), (.int (.ofNat (nat_lit 52)) (nat_lit 0)), (.int (.ofNat (nat_lit 1)) (nat_lit 0)), (.int (.ofNat (nat_lit 0)) (nat_lit 0)), (.int (.ofNat (nat_lit 0)) (nat_lit 0)), (.int (.ofNat (nat_lit 3)) (nat_lit 0)), (.ref (nat_lit 157)), (.bool true), (.int (.ofNat (nat_lit 181)) (nat_lit 0)), (.ref (nat_lit 158)), .none, (.ref (nat_lit 159)), (.ref (nat_lit 160)), (.ref (nat_lit 161)), (.int (.ofNat (nat_lit 395)) (nat_lit 0)), (.int (.ofNat (nat_lit 52)) (nat_lit 0)), (.str (.ofString "/claim/cut.py") (nat_lit 396))]), #[]⟩ :: ⟨(.type "function"), none, (.func ⟨(.ofString "to_text"), (.ofString "to_text"), (aOf (top (nat_lit 9))), (.stmts (bOf (top (nat_lit 9)))), (sOf (top (nat_lit 9))), (nat_lit 3), [], .none, .none, .none, (.str (.ofString "snobol.values") (nat_lit 187)), none, (.ref (nat_lit 162)), .none, (nat_lit 0)⟩), #[]⟩ :: ⟨(.type "tuple"), none, (.seq #[] (nat_lit 0)), #[]⟩ :: ⟨.none, none, (.fields #[]), #[]⟩ :: ⟨(.type "tuple"), none, (.seq #[(.str (.ofString "value") (nat_lit 401)), (.str (.ofString "text") (nat_lit 402))] (nat_lit 0)), #[]⟩ :: ⟨(.type "tuple"), none, (.seq #[] (nat_lit 0)), #[]⟩ :: ⟨.none, none, (.func ⟨(.ofString "need_text"), (.ofString "need_text"), (aOf (top (nat_lit 10))), (.stmts (bOf (top (nat_lit 10)))), (sOf (top (nat_lit 10))), (nat_lit 0), [], .none, .none, .none, .none, none, .none, .none, (nat_lit 0)⟩), #[]⟩ :: ⟨(.type "code"), none, (.fields #[(.str (.ofString "need_text") (nat_lit 398)), (.str (.ofString "need_text") (nat_lit 399)), (.str (.ofString "/claim/cut.py") (nat_lit 400)), (.int (.ofNat (nat_lit 56)) (nat_lit 0)), (.int (.ofNat (nat_lit 1)) (nat_lit 0)), (.int (.ofNat (nat_lit 0)) (nat_lit 0)), (.int (.ofNat (nat_lit 0)) (nat_lit 0)), (.int (.ofNat (nat_lit 3)) (nat_lit 0)), (.ref (nat_lit 164)), (.bool true), (.int (.ofNat (nat_lit 181)) (nat_lit 0)), (.ref (nat_lit 165)), .none, (.ref (nat_lit 166)), (.ref (nat_lit 167)), (.ref (nat_lit 168)), (.int (.ofNat (nat_lit 403)) (nat_lit 0)), (.int (.ofNat (nat_lit 56)) (nat_lit 0)), (.str (.ofString "/claim/cut.py") (nat_lit 404))]), #[]⟩ :: ⟨(.type "function"), none, (.func ⟨(.ofString "need_text"), (.ofString "need_text"), (aOf (top (nat_lit 10))), (.stmts (bOf (top (nat_lit 10)))), (sOf (top (nat_lit 10))), (nat_lit 3), [], .none, .none, .none, (.str (.ofString "snobol.values") (nat_lit 187)), none, (.ref (nat_lit 169)), .none, (nat_lit 0)⟩), #[]⟩ :: ⟨(.type "tuple"), none, (.seq #[(.ref (nat_lit 138))] (nat_lit 0)), #[]⟩ :: ⟨(.type "builtin_function_or_method"), none, (.fields #[(.builtin "type.__prepare__"), (.type "type")]), #[]⟩ :: ⟨(.type "dict"), none, (.dict #[⟨(PyData.keyHash P (.ofString "__module__")), (.str (.ofString "__module__") (nat_lit 415)), (.str (.ofString "snobol.aggregates") (nat_lit 406))⟩, ⟨(PyData.keyHash P (.ofString "__qualname__")), (.str (.ofString "__qualname__") (nat_lit 417)), (.str (.ofString "Array") (nat_lit 416))⟩, ⟨(PyData.keyHash P (.ofString "__firstlineno__")), (.str (.ofString "__firstlineno__") (nat_lit 419)), (.int (.ofNat (nat_lit 62)) (nat_lit 418))⟩, ⟨(PyData.keyHash P (.ofString "__init__")), (.str (.ofString "__init__") (nat_lit 430)), (.ref (nat_lit 184))⟩, ⟨(PyData.keyHash P (.ofString "__static_attributes__")), (.str (.ofString "__static_attributes__") (nat_lit 434)), (.ref (nat_lit 185))⟩] (nat_lit 5)), #[]⟩ :: ⟨(.type "tuple"), none, (.seq #[] (nat_lit 0)), #[]⟩ :: ⟨.none, none, (.fields #[(.int (.ofNat (nat_lit 64)) (nat_lit 0)), (.int (.ofNat (nat_lit 4)) (nat_lit 0)), (.ref (nat_lit 183))]), #[]⟩ :: ⟨(.type "code"), none, (.fields #[(.str (.ofString "Array") (nat_lit 410)), (.str (.ofString "Array") (nat_lit 411)), (.str (.ofString "/claim/cut.py") (nat_lit 412)), (.int (.ofNat (nat_lit 62)) (nat_lit 0)), (.int (.ofNat (nat_lit 0)) (nat_lit 0)), (.int (.ofNat (nat_lit 0)) (nat_lit 0)), (.int (.ofNat (nat_lit 0)) (nat_lit 0)), (.int (.ofNat (nat_lit 0)) (nat_lit 0)), (.ref (nat_lit 174)), (.bool false), (.int (.ofNat (nat_lit 181)) (nat_lit 0)), (.ref (nat_lit 175)), .none, .none, .none, .none, (.int (.ofNat (nat_lit 413)) (nat_lit 0)), (.int (.ofNat (nat_lit 62)) (nat_lit 0)), (.str (.ofString "/claim/cut.py") (nat_lit 414))]), #[]⟩ :: ⟨(.type "frame"), none, .plain, #[(some (.ref (nat_lit 176))), (some (.ref (nat_lit 3))), (some (.ref (nat_lit 173))), none, (some (.str (.ofString "snobol.aggregates") (nat_lit 406))), none, (some (.ref (nat_lit 0)))]⟩ :: ⟨(.type "tuple"), none, (.seq #[] (nat_lit 0)), #[]⟩ :: ⟨.none, none, (.fields #[]), #[]⟩ :: ⟨(.type "tuple"), none, (.seq #[(.str (.ofString "self") (nat_lit 423)), (.str (.ofString "number") (nat_lit 424)), (.str (.ofString "told") (nat_lit 425)), (.str (.ofString "bounds") (nat_lit 426)), (.str (.ofString "value") (nat_lit 427))] (nat_lit 0)), #[]⟩ :: ⟨(.type "tuple"), none, (.seq #[] (nat_lit 0)), #[]⟩ :: ⟨.none, none, (.func ⟨(.ofString "__init__"), (.ofString "Array.__init__"), (aOf (sub (nat_lit 12) (nat_lit 0))), (.stmts (bOf (sub (nat_lit 12) (nat_lit 0)))), (sOf (sub (nat_lit 12) (nat_lit 0))), (nat_lit 0), [], .none, .none, .none, .none, none, .none, .none, (nat_lit 0)⟩), #[]⟩ :: ⟨(.type "code"), none, (.fields #[(.str (.ofString "__init__") (nat_lit 420)), (.str (.ofString "Array.__init__") (nat_lit 421)), (.str (.ofString "/claim/cut.py") (nat_lit 422)), (.int (.ofNat (nat_lit 64)) (nat_lit 0)), (.int (.ofNat (nat_lit 5)) (nat_lit 0)), (.int (.ofNat (nat_lit 0)) (nat_lit 0)), (.int (.ofNat (nat_lit 0)) (nat_lit 0)), (.int (.ofNat (nat_lit 3)) (nat_lit 0)), (.ref (nat_lit 178)), (.bool true), (.int (.ofNat (nat_lit 181)) (nat_lit 0)), (.ref (nat_lit 179)), .none, (.ref (nat_lit 180)), (.ref (nat_lit 181)), (.ref (nat_lit 182)), (.int (.ofNat (nat_lit 428)) (nat_lit 0)), (.int (.ofNat (nat_lit 64)) (nat_lit 0)), (.str (.ofString "/claim/cut.py") (nat_lit 429))]), #[]⟩ :: ⟨(.type "function"), none, (.func ⟨(.ofString "__init__"), (.ofString "Array.__init__"), (aOf (sub (nat_lit 12) (nat_lit 0))), (.stmts (bOf (sub (nat_lit 12) (nat_lit 0)))), (sOf (sub (nat_lit 12) (nat_lit 0))), (nat_lit 3), [], .none, .none, .none, (.str (.ofString "snobol.aggregates") (nat_lit 406)), none, (.ref (nat_lit 183)), .none, (nat_lit 0)⟩), #[]⟩ :: ⟨(.type "tuple"), none, (.seq #[(.str (.ofString "bounds") (nat_lit 431)), (.str (.ofString "items") (nat_lit 432)), (.str (.ofString "told") (nat_lit 433))] (nat_lit 0)), #[]⟩ :: ⟨(.type "dict"), none, (.dict #[⟨(PyData.keyHash P (.ofString "__module__")), (.str (.ofString "__module__") (nat_lit 415)), (.str (.ofString "snobol.aggregates") (nat_lit 406))⟩, ⟨(PyData.keyHash P (.ofString "__firstlineno__")), (.str (.ofString "__firstlineno__") (nat_lit 419)), (.int (.ofNat (nat_lit 62)) (nat_lit 418))⟩, ⟨(PyData.keyHash P (.ofString "__init__")), (.str (.ofString "__init__") (nat_lit 430)), (.ref (nat_lit 184))⟩, ⟨(PyData.keyHash P (.ofString "__static_attributes__")), (.str (.ofString "__static_attributes__") (nat_lit 434)), (.ref (nat_lit 185))⟩, ⟨(PyData.keyHash P (.ofString "__doc__")), (.str (.ofString "__doc__") (nat_lit 435)), .none⟩] (nat_lit 2)), #[]⟩ :: ⟨(.type "type"), none, (.cls ⟨(.ofString "Array"), [(.ref (nat_lit 138))], [(.ref (nat_lit 187)), (.ref (nat_lit 138)), (.type "object")], (nat_lit 186), (.ofString "Array"), true, [], [], false, none, false⟩), #[(some (.ref (nat_lit 171))), none, (some (.str (.ofString "Array") (nat_lit 408))), (some (.str (.ofString "Array") (nat_lit 416))), (some (.builtin "object.__new__")), (some (.bool true))]⟩ :: ⟨(.type "super"), none, (.fields #[(.ref (nat_lit 187)), (.ref (nat_lit 187)), (.ref (nat_lit 187))]), #[]⟩ :: ⟨(.type "builtin_function_or_method"), none, (.fields #[(.builtin "object.__init_subclass__"), (.ref (nat_lit 187))]), #[]⟩ :: t
noncomputable def c6 (P : Params) (t : List Obj) : List Obj := ⟨(.type "tuple"), none, (.seq #[(.ref (nat_lit 138))] (nat_lit 0)), #[]⟩ :: ⟨(.type "builtin_function_or_method"), none, (.fields #[(.builtin "type.__prepare__"), (.type "type")]), #[]⟩ :: ⟨(.type "dict"), none, (.dict #[⟨(PyData.keyHash P (.ofString "__module__")), (.str (.ofString "__module__") (nat_lit 445)), (.str (.ofString "snobol.aggregates") (nat_lit 406))⟩, ⟨(PyData.keyHash P (.ofString "__qualname__")), (.str (.ofString "__qualname__") (nat_lit 447)), (.str (.ofString "Table") (nat_lit 446))⟩, ⟨(PyData.keyHash P (.ofString "__firstlineno__")), (.str (.ofString "__firstlineno__") (nat_lit 449)), (.int (.ofNat (nat_lit 69)) (nat_lit 448))⟩, ⟨(PyData.keyHash P (.ofString "__init__")), (.str (.ofString "__init__") (nat_lit 457)), (.ref (nat_lit 203))⟩, ⟨(PyData.keyHash P (.ofString "__static_attributes__")), (.str (.ofString "__static_attributes__") (nat_lit 461)), (.ref (nat_lit 204))⟩] (nat_lit 5)), #[]⟩ :: ⟨(.type "tuple"), none, (.seq #[] (nat_lit 0)), #[]⟩ :: ⟨.none, none, (.fields #[(.int (.ofNat (nat_lit 71)) (nat_lit 0)), (.int (.ofNat (nat_lit 4)) (nat_lit 0)), (.ref (nat_lit 202))]), #[]⟩ :: ⟨(.type "code"), none, (.fields #[(.str (.ofString "Table") (nat_lit 440)), (.str (.ofString "Table") (nat_lit 441)), (.str (.ofString "/claim/cut.py") (nat_lit 442)), (.int (.ofNat (nat_lit 69)) (nat_lit 0)), (.int (.ofNat (nat_lit 0)) (nat_lit 0)), (.int (.ofNat (nat_lit 0)) (nat_lit 0)), (.int (.ofNat (nat_lit 0)) (nat_lit 0)), (.int (.ofNat (nat_lit 0)) (nat_lit 0)), (.ref (nat_lit 193)), (.bool false), (.int (.ofNat (nat_lit 181)) (nat_lit 0)), (.ref (nat_lit 194)), .none, .none, .none, .none, (.int (.ofNat (nat_lit 443)) (nat_lit 0)), (.int (.ofNat (nat_lit 69)) (nat_lit 0)), (.str (.ofString "/claim/cut.py") (nat_lit 444))]), #[]⟩ :: ⟨(.type "frame"), none, .plain, #[(some (.ref (nat_lit 195))), (some (.ref (nat_lit 3))), (some (.ref (nat_lit 192))), none, (some (.str (.ofString "snobol.aggregates") (nat_lit 406))), none, (some (.ref (nat_lit 0)))]⟩ :: ⟨(.type "tuple"), none, (.seq #[] (nat_lit 0)), #[]⟩ :: ⟨.none, none, (.fields #[]), #[]⟩ :: ⟨(.type "tuple"), none, (.seq #[(.str (.ofString "self") (nat_lit 453)), (.str (.ofString "number") (nat_lit 454))] (nat_lit 0)), #[]⟩ :: ⟨(.type "tuple"), none, (.seq #[] (nat_lit 0)), #[]⟩ :: ⟨.none, none, (.func ⟨(.ofString "__init__"), (.ofString "Table.__init__"), (aOf (sub (nat_lit 13) (nat_lit 0))), (.stmts (bOf (sub (nat_lit 13) (nat_lit 0)))), (sOf (sub (nat_lit 13) (nat_lit 0))), (nat_lit 0), [], .none, .none, .none, .none, none, .none, .none, (nat_lit 0)⟩), #[]⟩ :: ⟨(.type "code"), none, (.fields #[(.str (.ofString "__init__") (nat_lit 450)), (.str (.ofString "Table.__init__") (nat_lit 451)), (.str (.ofString "/claim/cut.py") (nat_lit 452)), (.int (.ofNat (nat_lit 71)) (nat_lit 0)), (.int (.ofNat (nat_lit 2)) (nat_lit 0)), (.int (.ofNat (nat_lit 0)) (nat_lit 0)), (.int (.ofNat (nat_lit 0)) (nat_lit 0)), (.int (.ofNat (nat_lit 3)) (nat_lit 0)), (.ref (nat_lit 197)), (.bool true), (.int (.ofNat (nat_lit 181)) (nat_lit 0)), (.ref (nat_lit 198)), .none, (.ref (nat_lit 199)), (.ref (nat_lit 200)), (.ref (nat_lit 201)), (.int (.ofNat (nat_lit 455)) (nat_lit 0)), (.int (.ofNat (nat_lit 71)) (nat_lit 0)), (.str (.ofString "/claim/cut.py") (nat_lit 456))]), #[]⟩ :: ⟨(.type "function"), none, (.func ⟨(.ofString "__init__"), (.ofString "Table.__init__"), (aOf (sub (nat_lit 13) (nat_lit 0))), (.stmts (bOf (sub (nat_lit 13) (nat_lit 0)))), (sOf (sub (nat_lit 13) (nat_lit 0))), (nat_lit 3), [], .none, .none, .none, (.str (.ofString "snobol.aggregates") (nat_lit 406)), none, (.ref (nat_lit 202)), .none, (nat_lit 0)⟩), #[]⟩ :: ⟨(.type "tuple"), none, (.seq #[(.str (.ofString "entries") (nat_lit 458)), (.str (.ofString "places") (nat_lit 459)), (.str (.ofString "rows") (nat_lit 460))] (nat_lit 0)), #[]⟩ :: ⟨(.type "dict"), none, (.dict #[⟨(PyData.keyHash P (.ofString "__module__")), (.str (.ofString "__module__") (nat_lit 445)), (.str (.ofString "snobol.aggregates") (nat_lit 406))⟩, ⟨(PyData.keyHash P (.ofString "__firstlineno__")), (.str (.ofString "__firstlineno__") (nat_lit 449)), (.int (.ofNat (nat_lit 69)) (nat_lit 448))⟩, ⟨(PyData.keyHash P (.ofString "__init__")), (.str (.ofString "__init__") (nat_lit 457)), (.ref (nat_lit 203))⟩, ⟨(PyData.keyHash P (.ofString "__static_attributes__")), (.str (.ofString "__static_attributes__") (nat_lit 461)), (.ref (nat_lit 204))⟩, ⟨(PyData.keyHash P (.ofString "__doc__")), (.str (.ofString "__doc__") (nat_lit 462)), .none⟩] (nat_lit 2)), #[]⟩ :: ⟨(.type "type"), none, (.cls ⟨(.ofString "Table"), [(.ref (nat_lit 138))], [(.ref (nat_lit 206)), (.ref (nat_lit 138)), (.type "object")], (nat_lit 205), (.ofString "Table"), true, [], [], false, none, false⟩), #[(some (.ref (nat_lit 190))), none, (some (.str (.ofString "Table") (nat_lit 438))), (some (.str (.ofString "Table") (nat_lit 446))), (some (.builtin "object.__new__")), (some (.bool true))]⟩ :: ⟨(.type "super"), none, (.fields #[(.ref (nat_lit 206)), (.ref (nat_lit 206)), (.ref (nat_lit 206))]), #[]⟩ :: ⟨(.type "builtin_function_or_method"), none, (.fields #[(.builtin "object.__init_subclass__"), (.ref (nat_lit 206))]), #[]⟩ :: t
noncomputable def c7 (P : Params) (t : List Obj) : List Obj := ⟨(.type "tuple"), none, (.seq #[(.ref (nat_lit 138))] (nat_lit 0)), #[]⟩ :: ⟨(.type "builtin_function_or_method"), none, (.fields #[(.builtin "type.__prepare__"), (.type "type")]), #[]⟩ :: ⟨(.type "dict"), none, (.dict #[⟨(PyData.keyHash P (.ofString "__module__")), (.str (.ofString "__module__") (nat_lit 472)), (.str (.ofString "snobol.aggregates") (nat_lit 406))⟩, ⟨(PyData.keyHash P (.ofString "__qualname__")), (.str (.ofString "__qualname__") (nat_lit 474)), (.str (.ofString "Data") (nat_lit 473))⟩, ⟨(PyData.keyHash P (.ofString "__firstlineno__")), (.str (.ofString "__firstlineno__") (nat_lit 476)), (.int (.ofNat (nat_lit 76)) (nat_lit 475))⟩, ⟨(PyData.keyHash P (.ofString "__init__")), (.str (.ofString "__init__") (nat_lit 487)), (.ref (nat_lit 222))⟩, ⟨(PyData.keyHash P (.ofString "__static_attributes__")), (.str (.ofString "__static_attributes__") (nat_lit 490)), (.ref (nat_lit 223))⟩] (nat_lit 5)), #[]⟩ :: ⟨(.type "tuple"), none, (.seq #[] (nat_lit 0)), #[]⟩ :: ⟨.none, none, (.fields #[(.int (.ofNat (nat_lit 78)) (nat_lit 0)), (.int (.ofNat (nat_lit 4)) (nat_lit 0)), (.ref (nat_lit 221))]), #[]⟩ :: ⟨(.type "code"), none, (.fields #[(.str (.ofString "Data") (nat_lit 467)), (.str (.ofString "Data") (nat_lit 468)), (.str (.ofString "/claim/cut.py") (nat_lit 469)), (.int (.ofNat (nat_lit 76)) (nat_lit 0)), (.int (.ofNat (nat_lit 0)) (nat_lit 0)), (.int (.ofNat (nat_lit 0)) (nat_lit 0)), (.int (.ofNat (nat_lit 0)) (nat_lit 0)), (.int (.ofNat (nat_lit 0)) (nat_lit 0)), (.ref (nat_lit 212)), (.bool false), (.int (.ofNat (nat_lit 181)) (nat_lit 0)), (.ref (nat_lit 213)), .none, .none, .none, .none, (.int (.ofNat (nat_lit 470)) (nat_lit 0)), (.int (.ofNat (nat_lit 76)) (nat_lit 0)), (.str (.ofString "/claim/cut.py") (nat_lit 471))]), #[]⟩ :: ⟨(.type "frame"), none, .plain, #[(some (.ref (nat_lit 214))), (some (.ref (nat_lit 3))), (some (.ref (nat_lit 211))), none, (some (.str (.ofString "snobol.aggregates") (nat_lit 406))), none, (some (.ref (nat_lit 0)))]⟩ :: ⟨(.type "tuple"), none, (.seq #[] (nat_lit 0)), #[]⟩ :: ⟨.none, none, (.fields #[]), #[]⟩ :: ⟨(.type "tuple"), none, (.seq #[(.str (.ofString "self") (nat_lit 480)), (.str (.ofString "number") (nat_lit 481)), (.str (.ofString "word") (nat_lit 482)), (.str (.ofString "fields") (nat_lit 483)), (.str (.ofString "values") (nat_lit 484))] (nat_lit 0)), #[]⟩ :: ⟨(.type "tuple"), none, (.seq #[] (nat_lit 0)), #[]⟩ :: ⟨.none, none, (.func ⟨(.ofString "__init__"), (.ofString "Data.__init__"), (aOf (sub (nat_lit 14) (nat_lit 0))), (.stmts (bOf (sub (nat_lit 14) (nat_lit 0)))), (sOf (sub (nat_lit 14) (nat_lit 0))), (nat_lit 0), [], .none, .none, .none, .none, none, .none, .none, (nat_lit 0)⟩), #[]⟩ :: ⟨(.type "code"), none, (.fields #[(.str (.ofString "__init__") (nat_lit 477)), (.str (.ofString "Data.__init__") (nat_lit 478)), (.str (.ofString "/claim/cut.py") (nat_lit 479)), (.int (.ofNat (nat_lit 78)) (nat_lit 0)), (.int (.ofNat (nat_lit 5)) (nat_lit 0)), (.int (.ofNat (nat_lit 0)) (nat_lit 0)), (.int (.ofNat (nat_lit 0)) (nat_lit 0)), (.int (.ofNat (nat_lit 3)) (nat_lit 0)), (.ref (nat_lit 216)), (.bool true), (.int (.ofNat (nat_lit 181)) (nat_lit 0)), (.ref (nat_lit 217)), .none, (.ref (nat_lit 218)), (.ref (nat_lit 219)), (.ref (nat_lit 220)), (.int (.ofNat (nat_lit 485)) (nat_lit 0)), (.int (.ofNat (nat_lit 78)) (nat_lit 0)), (.str (.ofString "/claim/cut.py") (nat_lit 486))]), #[]⟩ :: ⟨(.type "function"), none, (.func ⟨(.ofString "__init__"), (.ofString "Data.__init__"), (aOf (sub (nat_lit 14) (nat_lit 0))), (.stmts (bOf (sub (nat_lit 14) (nat_lit 0)))), (sOf (sub (nat_lit 14) (nat_lit 0))), (nat_lit 3), [], .none, .none, .none, (.str (.ofString "snobol.aggregates") (nat_lit 406)), none, (.ref (nat_lit 221)), .none, (nat_lit 0)⟩), #[]⟩ :: ⟨(.type "tuple"), none, (.seq #[(.str (.ofString "fields") (nat_lit 488)), (.str (.ofString "values") (nat_lit 489))] (nat_lit 0)), #[]⟩ :: ⟨(.type "dict"), none, (.dict #[⟨(PyData.keyHash P (.ofString "__module__")), (.str (.ofString "__module__") (nat_lit 472)), (.str (.ofString "snobol.aggregates") (nat_lit 406))⟩, ⟨(PyData.keyHash P (.ofString "__firstlineno__")), (.str (.ofString "__firstlineno__") (nat_lit 476)), (.int (.ofNat (nat_lit 76)) (nat_lit 475))⟩, ⟨(PyData.keyHash P (.ofString "__init__")), (.str (.ofString "__init__") (nat_lit 487)), (.ref (nat_lit 222))⟩, ⟨(PyData.keyHash P (.ofString "__static_attributes__")), (.str (.ofString "__static_attributes__") (nat_lit 490)), (.ref (nat_lit 223))⟩, ⟨(PyData.keyHash P (.ofString "__doc__")), (.str (.ofString "__doc__") (nat_lit 491)), .none⟩] (nat_lit 2)), #[]⟩ :: ⟨(.type "type"), none, (.cls ⟨(.ofString "Data"), [(.ref (nat_lit 138))], [(.ref (nat_lit 225)), (.ref (nat_lit 138)), (.type "object")], (nat_lit 224), (.ofString "Data"), true, [], [], false, none, false⟩), #[(some (.ref (nat_lit 209))), none, (some (.str (.ofString "Data") (nat_lit 465))), (some (.str (.ofString "Data") (nat_lit 473))), (some (.builtin "object.__new__")), (some (.bool true))]⟩ :: ⟨(.type "super"), none, (.fields #[(.ref (nat_lit 225)), (.ref (nat_lit 225)), (.ref (nat_lit 225))]), #[]⟩ :: ⟨(.type "builtin_function_or_method"), none, (.fields #[(.builtin "object.__init_subclass__"), (.ref (nat_lit 225))]), #[]⟩ :: ⟨(.type "tuple"), none, (.seq #[] (nat_lit 0)), #[]⟩ :: ⟨.none, none, (.fields #[]), #[]⟩ :: ⟨(.type "tuple"), none, (.seq #[(.str (.ofString "bounds") (nat_lit 497)), (.str (.ofString "found") (nat_lit 498)), (.str (.ofString "low") (nat_lit 499)), (.str (.ofString "high") (nat_lit 500))] (nat_lit 0)), #[]⟩ :: ⟨(.type "tuple"), none, (.seq #[] (nat_lit 0)), #[]⟩ :: ⟨.none, none, (.func ⟨(.ofString "size_of_bounds"), (.ofString "size_of_bounds"), (aOf (top (nat_lit 15))), (.stmts (bOf (top (nat_lit 15)))), (sOf (top (nat_lit 15))), (nat_lit 0), [], .none, .none, .none, .none, none, .none, .none, (nat_lit 0)⟩), #[]⟩ :: ⟨(.type "code"), none, (.fields #[(.str (.ofString "size_of_bounds") (nat_lit 494)), (.str (.ofString "size_of_bounds") (nat_lit 495)), (.str (.ofString "/claim/cut.py") (nat_lit 496)), (.int (.ofNat (nat_lit 82)) (nat_lit 0)), (.int (.ofNat (nat_lit 1)) (nat_lit 0)), (.int (.ofNat (nat_lit 0)) (nat_lit 0)), (.int (.ofNat (nat_lit 0)) (nat_lit 0)), (.int (.ofNat (nat_lit 3)) (nat_lit 0)), (.ref (nat_lit 228)), (.bool true), (.int (.ofNat (nat_lit 181)) (nat_lit 0)), (.ref (nat_lit 229)), .none, (.ref (nat_lit 230)), (.ref (nat_lit 231)), (.ref (nat_lit 232)), (.int (.ofNat (nat_lit 501)) (nat_lit 0)), (.int (.ofNat (nat_lit 82)) (nat_lit 0)), (.str (.ofString "/claim/cut.py") (nat_lit 502))]), #[]⟩ :: ⟨(.type "function"), none, (.func ⟨(.ofString "size_of_bounds"), (.ofString "size_of_bounds"), (aOf (top (nat_lit 15))), (.stmts (bOf (top (nat_lit 15)))), (sOf (top (nat_lit 15))), (nat_lit 3), [], .none, .none, .none, (.str (.ofString "snobol.aggregates") (nat_lit 406)), none, (.ref (nat_lit 233)), .none, (nat_lit 0)⟩), #[]⟩ :: ⟨(.type "tuple"), none, (.seq #[] (nat_lit 0)), #[]⟩ :: ⟨.none, none, (.fields #[]), #[]⟩ :: ⟨(.type "tuple"), none, (.seq #[(.str (.ofString "thing") (nat_lit 507)), (.str (.ofString "field") (nat_lit 508))] (nat_lit 0)), #[]⟩ :: ⟨(.type "tuple"), none, (.seq #[] (nat_lit 0)), #[]⟩ :: ⟨.none, none, (.func ⟨(.ofString "field_ref"), (.ofString "field_ref"), (aOf (top (nat_lit 16))), (.stmts (bOf (top (nat_lit 16)))), (sOf (top (nat_lit 16))), (nat_lit 0), [], .none, .none, .none, .none, none, .none, .none, (nat_lit 0)⟩), #[]⟩ :: ⟨(.type "code"), none, (.fields #[(.str (.ofString "field_ref") (nat_lit 504)), (.str (.ofString "field_ref") (nat_lit 505)), (.str (.ofString "/claim/cut.py") (nat_lit 506)), (.int (.ofNat (nat_lit 87)) (nat_lit 0)), (.int (.ofNat (nat_lit 2)) (nat_lit 0)), (.int (.ofNat (nat_lit 0)) (nat_lit 0)), (.int (.ofNat (nat_lit 0)) (nat_lit 0)), (.int (.ofNat (nat_lit 3)) (nat_lit 0)), (.ref (nat_lit 235)), (.bool true), (.int (.ofNat (nat_lit 181)) (nat_lit 0)), (.ref (nat_lit 236)), .none, (.ref (nat_lit 237)), (.ref (nat_lit 238)), (.ref (nat_lit 239)), (.int (.ofNat (nat_lit 509)) (nat_lit 0)), (.int (.ofNat (nat_lit 87)) (nat_lit 0)), (.str (.ofString "/claim/cut.py") (nat_lit 510))]), #[]⟩ :: ⟨(.type "function"), none, (.func ⟨(.ofString "field_ref"), (.ofString "field_ref"), (aOf (top (nat_lit 16))), (.stmts (bOf (top (nat_lit 16)))), (sOf (top (nat_lit 16))), (nat_lit 3), [], .none, .none, .none, (.str (.ofString "snobol.aggregates") (nat_lit 406)), none, (.ref (nat_lit 240)), .none, (nat_lit 0)⟩), #[]⟩ :: ⟨(.type "tuple"), none, (.seq #[] (nat_lit 0)), #[]⟩ :: ⟨.none, none, (.fields #[]), #[]⟩ :: ⟨(.type "tuple"), none, (.seq #[(.str (.ofString "ref") (nat_lit 515))] (nat_lit 0)), #[]⟩ :: ⟨(.type "tuple"), none, (.seq #[] (nat_lit 0)), #[]⟩ :: ⟨.none, none, (.func ⟨(.ofString "slot_get"), (.ofString "slot_get"), (aOf (top (nat_lit 17))), (.stmts (bOf (top (nat_lit 17)))), (sOf (top (nat_lit 17))), (nat_lit 0), [], .none, .none, .none, .none, none, .none, .none, (nat_lit 0)⟩), #[]⟩ :: ⟨(.type "code"), none, (.fields #[(.str (.ofString "slot_get") (nat_lit 512)), (.str (.ofString "slot_get") (nat_lit 513)), (.str (.ofString "/claim/cut.py") (nat_lit 514)), (.int (.ofNat (nat_lit 93)) (nat_lit 0)), (.int (.ofNat (nat_lit 1)) (nat_lit 0)), (.int (.ofNat (nat_lit 0)) (nat_lit 0)), (.int (.ofNat (nat_lit 0)) (nat_lit 0)), (.int (.ofNat (nat_lit 3)) (nat_lit 0)), (.ref (nat_lit 242)), (.bool true), (.int (.ofNat (nat_lit 181)) (nat_lit 0)), (.ref (nat_lit 243)), .none, (.ref (nat_lit 244)), (.ref (nat_lit 245)), (.ref (nat_lit 246)), (.int (.ofNat (nat_lit 516)) (nat_lit 0)), (.int (.ofNat (nat_lit 93)) (nat_lit 0)), (.str (.ofString "/claim/cut.py") (nat_lit 517))]), #[]⟩ :: ⟨(.type "function"), none, (.func ⟨(.ofString "slot_get"), (.ofString "slot_get"), (aOf (top (nat_lit 17))), (.stmts (bOf (top (nat_lit 17)))), (sOf (top (nat_lit 17))), (nat_lit 3), [], .none, .none, .none, (.str (.ofString "snobol.aggregates") (nat_lit 406)), none, (.ref (nat_lit 247)), .none, (nat_lit 0)⟩), #[]⟩ :: t
noncomputable def c8 (P : Params) (t : List Obj) : List Obj := ⟨(.type "tuple"), none, (.seq #[] (nat_lit 0)), #[]⟩ :: ⟨.none, none, (.fields #[]), #[]⟩ :: ⟨(.type "tuple"), none, (.seq #[(.str (.ofString "ref") (nat_lit 522)), (.str (.ofString "value") (nat_lit 523))] (nat_lit 0)), #[]⟩ :: ⟨(.type "tuple"), none, (.seq #[] (nat_lit 0)), #[]⟩ :: ⟨.none, none, (.func ⟨(.ofString "slot_set"), (.ofString "slot_set"), (aOf (top (nat_lit 18))), (.stmts (bOf (top (nat_lit 18)))), (sOf (top (nat_lit 18))), (nat_lit 0), [], .none, .none, .none, .none, none, .none, .none, (nat_lit 0)⟩), #[]⟩ :: ⟨(.type "code"), none, (.fields #[(.str (.ofString "slot_set") (nat_lit 519)), (.str (.ofString "slot_set") (nat_lit 520)), (.str (.ofString "/claim/cut.py") (nat_lit 521)), (.int (.ofNat (nat_lit 99)) (nat_lit 0)), (.int (.ofNat (nat_lit 2)) (nat_lit 0)), (.int (.ofNat (nat_lit 0)) (nat_lit 0)), (.int (.ofNat (nat_lit 0)) (nat_lit 0)), (.int (.ofNat (nat_lit 3)) (nat_lit 0)), (.ref (nat_lit 249)), (.bool true), (.int (.ofNat (nat_lit 181)) (nat_lit 0)), (.ref (nat_lit 250)), .none, (.ref (nat_lit 251)), (.ref (nat_lit 252)), (.ref (nat_lit 253)), (.int (.ofNat (nat_lit 524)) (nat_lit 0)), (.int (.ofNat (nat_lit 99)) (nat_lit 0)), (.str (.ofString "/claim/cut.py") (nat_lit 525))]), #[]⟩ :: ⟨(.type "function"), none, (.func ⟨(.ofString "slot_set"), (.ofString "slot_set"), (aOf (top (nat_lit 18))), (.stmts (bOf (top (nat_lit 18)))), (sOf (top (nat_lit 18))), (nat_lit 3), [], .none, .none, .none, (.str (.ofString "snobol.aggregates") (nat_lit 406)), none, (.ref (nat_lit 254)), .none, (nat_lit 0)⟩), #[]⟩ :: ⟨(.type "tuple"), none, (.seq #[] (nat_lit 0)), #[]⟩ :: ⟨.none, none, (.fields #[]), #[]⟩ :: ⟨(.type "tuple"), none, (.seq #[(.str (.ofString "number") (nat_lit 530)), (.str (.ofString "word") (nat_lit 531)), (.str (.ofString "fields") (nat_lit 532)), (.str (.ofString "values") (nat_lit 533))] (nat_lit 0)), #[]⟩ :: ⟨(.type "tuple"), none, (.seq #[] (nat_lit 0)), #[]⟩ :: ⟨.none, none, (.func ⟨(.ofString "data_made"), (.ofString "data_made"), (aOf (top (nat_lit 19))), (.stmts (bOf (top (nat_lit 19)))), (sOf (top (nat_lit 19))), (nat_lit 0), [], .none, .none, .none, .none, none, .none, .none, (nat_lit 0)⟩), #[]⟩ :: ⟨(.type "code"), none, (.fields #[(.str (.ofString "data_made") (nat_lit 527)), (.str (.ofString "data_made") (nat_lit 528)), (.str (.ofString "/claim/cut.py") (nat_lit 529)), (.int (.ofNat (nat_lit 106)) (nat_lit 0)), (.int (.ofNat (nat_lit 4)) (nat_lit 0)), (.int (.ofNat (nat_lit 0)) (nat_lit 0)), (.int (.ofNat (nat_lit 0)) (nat_lit 0)), (.int (.ofNat (nat_lit 3)) (nat_lit 0)), (.ref (nat_lit 256)), (.bool true), (.int (.ofNat (nat_lit 181)) (nat_lit 0)), (.ref (nat_lit 257)), .none, (.ref (nat_lit 258)), (.ref (nat_lit 259)), (.ref (nat_lit 260)), (.int (.ofNat (nat_lit 534)) (nat_lit 0)), (.int (.ofNat (nat_lit 106)) (nat_lit 0)), (.str (.ofString "/claim/cut.py") (nat_lit 535))]), #[]⟩ :: ⟨(.type "function"), none, (.func ⟨(.ofString "data_made"), (.ofString "data_made"), (aOf (top (nat_lit 19))), (.stmts (bOf (top (nat_lit 19)))), (sOf (top (nat_lit 19))), (nat_lit 3), [], .none, .none, .none, (.str (.ofString "snobol.aggregates") (nat_lit 406)), none, (.ref (nat_lit 261)), .none, (nat_lit 0)⟩), #[]⟩ :: ⟨(.type "tuple"), none, (.seq #[] (nat_lit 0)), #[]⟩ :: ⟨(.type "builtin_function_or_method"), none, (.fields #[(.builtin "type.__prepare__"), (.type "type")]), #[]⟩ :: ⟨(.type "dict"), none, (.dict #[⟨(PyData.keyHash P (.ofString "__module__")), (.str (.ofString "__module__") (nat_lit 546)), (.str (.ofString "snobol.world") (nat_lit 537))⟩, ⟨(PyData.keyHash P (.ofString "__qualname__")), (.str (.ofString "__qualname__") (nat_lit 548)), (.str (.ofString "World") (nat_lit 547))⟩, ⟨(PyData.keyHash P (.ofString "__firstlineno__")), (.str (.ofString "__firstlineno__") (nat_lit 550)), (.int (.ofNat (nat_lit 109)) (nat_lit 549))⟩, ⟨(PyData.keyHash P (.ofString "__init__")), (.str (.ofString "__init__") (nat_lit 565)), (.ref (nat_lit 277))⟩, ⟨(PyData.keyHash P (.ofString "__static_attributes__")), (.str (.ofString "__static_attributes__") (nat_lit 592)), (.ref (nat_lit 278))⟩] (nat_lit 5)), #[]⟩ :: ⟨(.type "tuple"), none, (.seq #[] (nat_lit 0)), #[]⟩ :: ⟨.none, none, (.fields #[(.int (.ofNat (nat_lit 111)) (nat_lit 0)), (.int (.ofNat (nat_lit 4)) (nat_lit 0)), (.ref (nat_lit 276))]), #[]⟩ :: ⟨(.type "code"), none, (.fields #[(.str (.ofString "World") (nat_lit 541)), (.str (.ofString "World") (nat_lit 542)), (.str (.ofString "/claim/cut.py") (nat_lit 543)), (.int (.ofNat (nat_lit 109)) (nat_lit 0)), (.int (.ofNat (nat_lit 0)) (nat_lit 0)), (.int (.ofNat (nat_lit 0)) (nat_lit 0)), (.int (.ofNat (nat_lit 0)) (nat_lit 0)), (.int (.ofNat (nat_lit 0)) (nat_lit 0)), (.ref (nat_lit 266)), (.bool false), (.int (.ofNat (nat_lit 181)) (nat_lit 0)), (.ref (nat_lit 267)), .none, .none, .none, .none, (.int (.ofNat (nat_lit 544)) (nat_lit 0)), (.int (.ofNat (nat_lit 109)) (nat_lit 0)), (.str (.ofString "/claim/cut.py") (nat_lit 545))]), #[]⟩ :: ⟨(.type "frame"), none, .plain, #[(some (.ref (nat_lit 268))), (some (.ref (nat_lit 3))), (some (.ref (nat_lit 265))), none, (some (.str (.ofString "snobol.world") (nat_lit 537))), none, (some (.ref (nat_lit 0)))]⟩ :: ⟨(.type "tuple"), none, (.seq #[(.int (.ofNat (nat_lit 32)) (nat_lit 551)), (.int (.ofNat (nat_lit 5000)) (nat_lit 552)), (.int (.ofNat (nat_lit 30)) (nat_lit 553)), (.int (.ofNat (nat_lit 5000)) (nat_lit 554))] (nat_lit 0)), #[]⟩ :: ⟨(.type "tuple"), none, (.seq #[] (nat_lit 0)), #[]⟩ :: ⟨.none, none, (.fields #[]), #[]⟩ :: ⟨(.type "tuple"), none, (.seq #[(.str (.ofString "self") (nat_lit 558)), (.str (.ofString "width") (nat_lit 559)), (.str (.ofString "most_steps") (nat_lit 560)), (.str (.ofString "most_depth") (nat_lit 561)), (.str (.ofString "most_length") (nat_lit 562))] (nat_lit 0)), #[]⟩ :: ⟨(.type "tuple"), none, (.seq #[] (nat_lit 0)), #[]⟩ :: ⟨.none, none, (.func ⟨(.ofString "__init__"), (.ofString "World.__init__"), (aOf (sub (nat_lit 21) (nat_lit 0))), (.stmts (bOf (sub (nat_lit 21) (nat_lit 0)))), (sOf (sub (nat_lit 21) (nat_lit 0))), (nat_lit 0), [], .none, .none, .none, .none, none, .none, .none, (nat_lit 0)⟩), #[]⟩ :: ⟨(.type "code"), none, (.fields #[(.str (.ofString "__init__") (nat_lit 555)), (.str (.ofString "World.__init__") (nat_lit 556)), (.str (.ofString "/claim/cut.py") (nat_lit 557)), (.int (.ofNat (nat_lit 111)) (nat_lit 0)), (.int (.ofNat (nat_lit 5)) (nat_lit 0)), (.int (.ofNat (nat_lit 0)) (nat_lit 0)), (.int (.ofNat (nat_lit 0)) (nat_lit 0)), (.int (.ofNat (nat_lit 3)) (nat_lit 0)), (.ref (nat_lit 271)), (.bool true), (.int (.ofNat (nat_lit 181)) (nat_lit 0)), (.ref (nat_lit 272)), .none, (.ref (nat_lit 273)), (.ref (nat_lit 274)), (.ref (nat_lit 275)), (.int (.ofNat (nat_lit 563)) (nat_lit 0)), (.int (.ofNat (nat_lit 111)) (nat_lit 0)), (.str (.ofString "/claim/cut.py") (nat_lit 564))]), #[]⟩ :: ⟨(.type "function"), none, (.func ⟨(.ofString "__init__"), (.ofString "World.__init__"), (aOf (sub (nat_lit 21) (nat_lit 0))), (.stmts (bOf (sub (nat_lit 21) (nat_lit 0)))), (sOf (sub (nat_lit 21) (nat_lit 0))), (nat_lit 3), [], (.ref (nat_lit 270)), .none, .none, (.str (.ofString "snobol.world") (nat_lit 537)), none, (.ref (nat_lit 276)), .none, (nat_lit 0)⟩), #[]⟩ :: ⟨(.type "tuple"), none, (.seq #[(.str (.ofString "aside") (nat_lit 566)), (.str (.ofString "depth") (nat_lit 567)), (.str (.ofString "evaluate") (nat_lit 568)), (.str (.ofString "functions") (nat_lit 569)), (.str (.ofString "holders") (nat_lit 570)), (.str (.ofString "inputs") (nat_lit 571)), (.str (.ofString "kept_names") (nat_lit 572)), (.str (.ofString "keywords") (nat_lit 573)), (.str (.ofString "labels") (nat_lit 574)), (.str (.ofString "made") (nat_lit 575)), (.str (.ofString "make_code") (nat_lit 576)), (.str (.ofString "matcher") (nat_lit 577)), (.str (.ofString "most_depth") (nat_lit 578)), (.str (.ofString "most_items") (nat_lit 579)), (.str (.ofString "most_length") (nat_lit 580)), (.str (.ofString "most_steps") (nat_lit 581)), (.str (.ofString "nested") (nat_lit 582)), (.str (.ofString "opsyns") (nat_lit 583)), (.str (.ofString "outputs") (nat_lit 584)), (.str (.ofString "read_names") (nat_lit 585)), (.str (.ofString "steps") (nat_lit 586)), (.str (.ofString "store") (nat_lit 587)), (.str (.ofString "traced") (nat_lit 588)), (.str (.ofString "traces") (nat_lit 589)), (.str (.ofString "width") (nat_lit 590)), (.str (.ofString "write_names") (nat_lit 591))] (nat_lit 0)), #[]⟩ :: ⟨(.type "dict"), none, (.dict #[⟨(PyData.keyHash P (.ofString "__module__")), (.str (.ofString "__module__") (nat_lit 546)), (.str (.ofString "snobol.world") (nat_lit 537))⟩, ⟨(PyData.keyHash P (.ofString "__firstlineno__")), (.str (.ofString "__firstlineno__") (nat_lit 550)), (.int (.ofNat (nat_lit 109)) (nat_lit 549))⟩, ⟨(PyData.keyHash P (.ofString "__init__")), (.str (.ofString "__init__") (nat_lit 565)), (.ref (nat_lit 277))⟩, ⟨(PyData.keyHash P (.ofString "__static_attributes__")), (.str (.ofString "__static_attributes__") (nat_lit 592)), (.ref (nat_lit 278))⟩, ⟨(PyData.keyHash P (.ofString "__dict__")), (.str (.ofString "__dict__") (nat_lit 594)), (.ref (nat_lit 281))⟩, ⟨(PyData.keyHash P (.ofString "__weakref__")), (.str (.ofString "__weakref__") (nat_lit 596)), (.ref (nat_lit 282))⟩, ⟨(PyData.keyHash P (.ofString "__doc__")), (.str (.ofString "__doc__") (nat_lit 597)), .none⟩] (nat_lit 4)), #[]⟩ :: ⟨(.type "type"), none, (.cls ⟨(.ofString "World"), [(.type "object")], [(.ref (nat_lit 280)), (.type "object")], (nat_lit 279), (.ofString "World"), true, [], [], false, none, false⟩), #[none, none, (some (.str (.ofString "World") (nat_lit 539))), (some (.str (.ofString "World") (nat_lit 547))), (some (.builtin "object.__new__")), (some (.bool true))]⟩ :: ⟨(.type "getset_descriptor"), none, (.fields #[(.str (.ofString "__dict__") (nat_lit 593)), (.ref (nat_lit 280)), (.builtin "function.__dict__"), (.builtin "function.__dict__#set")]), #[]⟩ :: ⟨(.type "getset_descriptor"), none, (.fields #[(.str (.ofString "__weakref__") (nat_lit 595)), (.ref (nat_lit 280)), (.builtin "ExceptionGroup.__weakref__"), .none]), #[]⟩ :: ⟨(.type "super"), none, (.fields #[(.ref (nat_lit 280)), (.ref (nat_lit 280)), (.ref (nat_lit 280))]), #[]⟩ :: ⟨(.type "builtin_function_or_method"), none, (.fields #[(.builtin "object.__init_subclass__"), (.ref (nat_lit 280))]), #[]⟩ :: t
noncomputable def c9 (P : Params) (t : List Obj) : List Obj := ⟨(.type "tuple"), none, (.seq #[] (nat_lit 0)), #[]⟩ :: ⟨.none, none, (.fields #[]), #[]⟩ :: ⟨(.type "tuple"), none, (.seq #[(.str (.ofString "world") (nat_lit 603))] (nat_lit 0)), #[]⟩ :: ⟨(.type "tuple"), none, (.seq #[] (nat_lit 0)), #[]⟩ :: ⟨.none, none, (.func ⟨(.ofString "next_number"), (.ofString "next_number"), (aOf (top (nat_lit 22))), (.stmts (bOf (top (nat_lit 22)))), (sOf (top (nat_lit 22))), (nat_lit 0), [], .none, .none, .none, .none, none, .none, .none, (nat_lit 0)⟩), #[]⟩ :: ⟨(.type "code"), none, (.fields #[(.str (.ofString "next_number") (nat_lit 600)), (.str (.ofString "next_number") (nat_lit 601)), (.str (.ofString "/claim/cut.py") (nat_lit 602)), (.int (.ofNat (nat_lit 138)) (nat_lit 0)), (.int (.ofNat (nat_lit 1)) (nat_lit 0)), (.int (.ofNat (nat_lit 0)) (nat_lit 0)), (.int (.ofNat (nat_lit 0)) (nat_lit 0)), (.int (.ofNat (nat_lit 3)) (nat_lit 0)), (.ref (nat_lit 285)), (.bool true), (.int (.ofNat (nat_lit 181)) (nat_lit 0)), (.ref (nat_lit 286)), .none, (.ref (nat_lit 287)), (.ref (nat_lit 288)), (.ref (nat_lit 289)), (.int (.ofNat (nat_lit 604)) (nat_lit 0)), (.int (.ofNat (nat_lit 138)) (nat_lit 0)), (.str (.ofString "/claim/cut.py") (nat_lit 605))]), #[]⟩ :: ⟨(.type "function"), none, (.func ⟨(.ofString "next_number"), (.ofString "next_number"), (aOf (top (nat_lit 22))), (.stmts (bOf (top (nat_lit 22)))), (sOf (top (nat_lit 22))), (nat_lit 3), [], .none, .none, .none, (.str (.ofString "snobol.world") (nat_lit 537)), none, (.ref (nat_lit 290)), .none, (nat_lit 0)⟩), #[]⟩ :: ⟨(.type "tuple"), none, (.seq #[] (nat_lit 0)), #[]⟩ :: ⟨.none, none, (.fields #[]), #[]⟩ :: ⟨(.type "tuple"), none, (.seq #[(.str (.ofString "world") (nat_lit 610)), (.str (.ofString "name") (nat_lit 611)), (.str (.ofString "value") (nat_lit 612))] (nat_lit 0)), #[]⟩ :: ⟨(.type "tuple"), none, (.seq #[] (nat_lit 0)), #[]⟩ :: ⟨.none, none, (.func ⟨(.ofString "set_var"), (.ofString "set_var"), (aOf (top (nat_lit 23))), (.stmts (bOf (top (nat_lit 23)))), (sOf (top (nat_lit 23))), (nat_lit 0), [], .none, .none, .none, .none, none, .none, .none, (nat_lit 0)⟩), #[]⟩ :: ⟨(.type "code"), none, (.fields #[(.str (.ofString "set_var") (nat_lit 607)), (.str (.ofString "set_var") (nat_lit 608)), (.str (.ofString "/claim/cut.py") (nat_lit 609)), (.int (.ofNat (nat_lit 141)) (nat_lit 0)), (.int (.ofNat (nat_lit 3)) (nat_lit 0)), (.int (.ofNat (nat_lit 0)) (nat_lit 0)), (.int (.ofNat (nat_lit 0)) (nat_lit 0)), (.int (.ofNat (nat_lit 3)) (nat_lit 0)), (.ref (nat_lit 292)), (.bool true), (.int (.ofNat (nat_lit 181)) (nat_lit 0)), (.ref (nat_lit 293)), .none, (.ref (nat_lit 294)), (.ref (nat_lit 295)), (.ref (nat_lit 296)), (.int (.ofNat (nat_lit 613)) (nat_lit 0)), (.int (.ofNat (nat_lit 141)) (nat_lit 0)), (.str (.ofString "/claim/cut.py") (nat_lit 614))]), #[]⟩ :: ⟨(.type "function"), none, (.func ⟨(.ofString "set_var"), (.ofString "set_var"), (aOf (top (nat_lit 23))), (.stmts (bOf (top (nat_lit 23)))), (sOf (top (nat_lit 23))), (nat_lit 3), [], .none, .none, .none, (.str (.ofString "snobol.world") (nat_lit 537)), none, (.ref (nat_lit 297)), .none, (nat_lit 0)⟩), #[]⟩ :: ⟨(.type "tuple"), none, (.seq #[] (nat_lit 0)), #[]⟩ :: ⟨.none, none, (.fields #[]), #[]⟩ :: ⟨(.type "tuple"), none, (.seq #[(.str (.ofString "world") (nat_lit 625)), (.str (.ofString "holder") (nat_lit 626))] (nat_lit 0)), #[]⟩ :: ⟨(.type "tuple"), none, (.seq #[] (nat_lit 0)), #[]⟩ :: ⟨.none, none, (.func ⟨(.ofString "held"), (.ofString "held"), (aOf (top (nat_lit 27))), (.stmts (bOf (top (nat_lit 27)))), (sOf (top (nat_lit 27))), (nat_lit 0), [], .none, .none, .none, .none, none, .none, .none, (nat_lit 0)⟩), #[]⟩ :: ⟨(.type "code"), none, (.fields #[(.str (.ofString "held") (nat_lit 622)), (.str (.ofString "held") (nat_lit 623)), (.str (.ofString "/claim/cut.py") (nat_lit 624)), (.int (.ofNat (nat_lit 150)) (nat_lit 0)), (.int (.ofNat (nat_lit 2)) (nat_lit 0)), (.int (.ofNat (nat_lit 0)) (nat_lit 0)), (.int (.ofNat (nat_lit 0)) (nat_lit 0)), (.int (.ofNat (nat_lit 3)) (nat_lit 0)), (.ref (nat_lit 299)), (.bool true), (.int (.ofNat (nat_lit 181)) (nat_lit 0)), (.ref (nat_lit 300)), .none, (.ref (nat_lit 301)), (.ref (nat_lit 302)), (.ref (nat_lit 303)), (.int (.ofNat (nat_lit 627)) (nat_lit 0)), (.int (.ofNat (nat_lit 150)) (nat_lit 0)), (.str (.ofString "/claim/cut.py") (nat_lit 628))]), #[]⟩ :: ⟨(.type "function"), none, (.func ⟨(.ofString "held"), (.ofString "held"), (aOf (top (nat_lit 27))), (.stmts (bOf (top (nat_lit 27)))), (sOf (top (nat_lit 27))), (nat_lit 3), [], .none, .none, .none, (.str (.ofString "snobol.heap") (nat_lit 616)), none, (.ref (nat_lit 304)), .none, (nat_lit 0)⟩), #[]⟩ :: ⟨(.type "tuple"), none, (.seq #[] (nat_lit 0)), #[]⟩ :: ⟨.none, none, (.fields #[]), #[]⟩ :: ⟨(.type "tuple"), none, (.seq #[(.str (.ofString "world") (nat_lit 633)), (.str (.ofString "word") (nat_lit 634)), (.str (.ofString "fields") (nat_lit 635)), (.str (.ofString "values") (nat_lit 636))] (nat_lit 0)), #[]⟩ :: ⟨(.type "tuple"), none, (.seq #[] (nat_lit 0)), #[]⟩ :: ⟨.none, none, (.func ⟨(.ofString "made_data"), (.ofString "made_data"), (aOf (top (nat_lit 28))), (.stmts (bOf (top (nat_lit 28)))), (sOf (top (nat_lit 28))), (nat_lit 0), [], .none, .none, .none, .none, none, .none, .none, (nat_lit 0)⟩), #[]⟩ :: ⟨(.type "code"), none, (.fields #[(.str (.ofString "made_data") (nat_lit 630)), (.str (.ofString "made_data") (nat_lit 631)), (.str (.ofString "/claim/cut.py") (nat_lit 632)), (.int (.ofNat (nat_lit 153)) (nat_lit 0)), (.int (.ofNat (nat_lit 4)) (nat_lit 0)), (.int (.ofNat (nat_lit 0)) (nat_lit 0)), (.int (.ofNat (nat_lit 0)) (nat_lit 0)), (.int (.ofNat (nat_lit 3)) (nat_lit 0)), (.ref (nat_lit 306)), (.bool true), (.int (.ofNat (nat_lit 181)) (nat_lit 0)), (.ref (nat_lit 307)), .none, (.ref (nat_lit 308)), (.ref (nat_lit 309)), (.ref (nat_lit 310)), (.int (.ofNat (nat_lit 637)) (nat_lit 0)), (.int (.ofNat (nat_lit 153)) (nat_lit 0)), (.str (.ofString "/claim/cut.py") (nat_lit 638))]), #[]⟩ :: ⟨(.type "function"), none, (.func ⟨(.ofString "made_data"), (.ofString "made_data"), (aOf (top (nat_lit 28))), (.stmts (bOf (top (nat_lit 28)))), (sOf (top (nat_lit 28))), (nat_lit 3), [], .none, .none, .none, (.str (.ofString "snobol.heap") (nat_lit 616)), none, (.ref (nat_lit 311)), .none, (nat_lit 0)⟩), #[]⟩ :: ⟨(.type "tuple"), none, (.seq #[] (nat_lit 0)), #[]⟩ :: ⟨.none, none, (.fields #[]), #[]⟩ :: ⟨(.type "tuple"), none, (.seq #[(.str (.ofString "node") (nat_lit 643)), (.str (.ofString "found") (nat_lit 644)), (.str (.ofString "waiting") (nat_lit 645)), (.str (.ofString "part") (nat_lit 646))] (nat_lit 0)), #[]⟩ :: ⟨(.type "tuple"), none, (.seq #[] (nat_lit 0)), #[]⟩ :: ⟨.none, none, (.func ⟨(.ofString "things_in_node"), (.ofString "things_in_node"), (aOf (top (nat_lit 29))), (.stmts (bOf (top (nat_lit 29)))), (sOf (top (nat_lit 29))), (nat_lit 0), [], .none, .none, .none, .none, none, .none, .none, (nat_lit 0)⟩), #[]⟩ :: ⟨(.type "code"), none, (.fields #[(.str (.ofString "things_in_node") (nat_lit 640)), (.str (.ofString "things_in_node") (nat_lit 641)), (.str (.ofString "/claim/cut.py") (nat_lit 642)), (.int (.ofNat (nat_lit 155)) (nat_lit 0)), (.int (.ofNat (nat_lit 1)) (nat_lit 0)), (.int (.ofNat (nat_lit 0)) (nat_lit 0)), (.int (.ofNat (nat_lit 0)) (nat_lit 0)), (.int (.ofNat (nat_lit 3)) (nat_lit 0)), (.ref (nat_lit 313)), (.bool true), (.int (.ofNat (nat_lit 181)) (nat_lit 0)), (.ref (nat_lit 314)), .none, (.ref (nat_lit 315)), (.ref (nat_lit 316)), (.ref (nat_lit 317)), (.int (.ofNat (nat_lit 647)) (nat_lit 0)), (.int (.ofNat (nat_lit 155)) (nat_lit 0)), (.str (.ofString "/claim/cut.py") (nat_lit 648))]), #[]⟩ :: ⟨(.type "function"), none, (.func ⟨(.ofString "things_in_node"), (.ofString "things_in_node"), (aOf (top (nat_lit 29))), (.stmts (bOf (top (nat_lit 29)))), (sOf (top (nat_lit 29))), (nat_lit 3), [], .none, .none, .none, (.str (.ofString "snobol.heap") (nat_lit 616)), none, (.ref (nat_lit 318)), .none, (nat_lit 0)⟩), #[]⟩ :: ⟨(.type "tuple"), none, (.seq #[] (nat_lit 0)), #[]⟩ :: ⟨.none, none, (.fields #[]), #[]⟩ :: ⟨.none, none, (.func ⟨(.ofString "things_in"), (.ofString "things_in"), (aOf (top (nat_lit 30))), (.stmts (bOf (top (nat_lit 30)))), (sOf (top (nat_lit 30))), (nat_lit 0), [], .none, .none, .none, .none, none, .none, .none, (nat_lit 0)⟩), #[]⟩ :: ⟨(.type "code"), none, (.fields #[(.str (.ofString "things_in") (nat_lit 650)), (.str (.ofString "things_in") (nat_lit 651)), (.str (.ofString "/claim/cut.py") (nat_lit 652)), (.int (.ofNat (nat_lit 164)) (nat_lit 0)), (.int (.ofNat (nat_lit 1)) (nat_lit 0)), (.int (.ofNat (nat_lit 0)) (nat_lit 0)), (.int (.ofNat (nat_lit 0)) (nat_lit 0)), (.int (.ofNat (nat_lit 3)) (nat_lit 0)), (.ref (nat_lit 320)), (.bool true), (.int (.ofNat (nat_lit 181)) (nat_lit 0)), (.ref (nat_lit 321)), .none, .none, .none, (.ref (nat_lit 322)), (.int (.ofNat (nat_lit 653)) (nat_lit 0)), (.int (.ofNat (nat_lit 164)) (nat_lit 0)), (.str (.ofString "/claim/cut.py") (nat_lit 654))]), #[]⟩ :: ⟨(.type "function"), none, (.func ⟨(.ofString "things_in"), (.ofString "things_in"), (aOf (top (nat_lit 30))), (.stmts (bOf (top (nat_lit 30)))), (sOf (top (nat_lit 30))), (nat_lit 3), [], .none, .none, .none, (.str (.ofString "snobol.heap") (nat_lit 616)), none, (.ref (nat_lit 323)), .none, (nat_lit 0)⟩), #[]⟩ :: ⟨(.type "tuple"), none, (.seq #[] (nat_lit 0)), #[]⟩ :: ⟨.none, none, (.fields #[]), #[]⟩ :: ⟨(.type "tuple"), none, (.seq #[(.str (.ofString "roots") (nat_lit 659)), (.str (.ofString "waiting") (nat_lit 660)), (.str (.ofString "met") (nat_lit 661)), (.str (.ofString "value") (nat_lit 662))] (nat_lit 0)), #[]⟩ :: ⟨(.type "tuple"), none, (.seq #[] (nat_lit 0)), #[]⟩ :: ⟨.none, none, (.func ⟨(.ofString "reach"), (.ofString "reach"), (aOf (top (nat_lit 31))), (.stmts (bOf (top (nat_lit 31)))), (sOf (top (nat_lit 31))), (nat_lit 0), [], .none, .none, .none, .none, none, .none, .none, (nat_lit 0)⟩), #[]⟩ :: ⟨(.type "code"), none, (.fields #[(.str (.ofString "reach") (nat_lit 656)), (.str (.ofString "reach") (nat_lit 657)), (.str (.ofString "/claim/cut.py") (nat_lit 658)), (.int (.ofNat (nat_lit 174)) (nat_lit 0)), (.int (.ofNat (nat_lit 1)) (nat_lit 0)), (.int (.ofNat (nat_lit 0)) (nat_lit 0)), (.int (.ofNat (nat_lit 0)) (nat_lit 0)), (.int (.ofNat (nat_lit 3)) (nat_lit 0)), (.ref (nat_lit 325)), (.bool true), (.int (.ofNat (nat_lit 181)) (nat_lit 0)), (.ref (nat_lit 326)), .none, (.ref (nat_lit 327)), (.ref (nat_lit 328)), (.ref (nat_lit 329)), (.int (.ofNat (nat_lit 663)) (nat_lit 0)), (.int (.ofNat (nat_lit 174)) (nat_lit 0)), (.str (.ofString "/claim/cut.py") (nat_lit 664))]), #[]⟩ :: ⟨(.type "function"), none, (.func ⟨(.ofString "reach"), (.ofString "reach"), (aOf (top (nat_lit 31))), (.stmts (bOf (top (nat_lit 31)))), (sOf (top (nat_lit 31))), (nat_lit 3), [], .none, .none, .none, (.str (.ofString "snobol.heap") (nat_lit 616)), none, (.ref (nat_lit 330)), .none, (nat_lit 0)⟩), #[]⟩ :: ⟨(.type "tuple"), none, (.seq #[] (nat_lit 0)), #[]⟩ :: ⟨.none, none, (.fields #[]), #[]⟩ :: ⟨.none, none, (.func ⟨(.ofString "world_roots"), (.ofString "world_roots"), (aOf (top (nat_lit 32))), (.stmts (bOf (top (nat_lit 32)))), (sOf (top (nat_lit 32))), (nat_lit 0), [], .none, .none, .none, .none, none, .none, .none, (nat_lit 0)⟩), #[]⟩ :: ⟨(.type "code"), none, (.fields #[(.str (.ofString "world_roots") (nat_lit 666)), (.str (.ofString "world_roots") (nat_lit 667)), (.str (.ofString "/claim/cut.py") (nat_lit 668)), (.int (.ofNat (nat_lit 185)) (nat_lit 0)), (.int (.ofNat (nat_lit 1)) (nat_lit 0)), (.int (.ofNat (nat_lit 0)) (nat_lit 0)), (.int (.ofNat (nat_lit 0)) (nat_lit 0)), (.int (.ofNat (nat_lit 3)) (nat_lit 0)), (.ref (nat_lit 332)), (.bool true), (.int (.ofNat (nat_lit 181)) (nat_lit 0)), (.ref (nat_lit 333)), .none, .none, .none, (.ref (nat_lit 334)), (.int (.ofNat (nat_lit 669)) (nat_lit 0)), (.int (.ofNat (nat_lit 185)) (nat_lit 0)), (.str (.ofString "/claim/cut.py") (nat_lit 670))]), #[]⟩ :: ⟨(.type "function"), none, (.func ⟨(.ofString "world_roots"), (.ofString "world_roots"), (aOf (top (nat_lit 32))), (.stmts (bOf (top (nat_lit 32)))), (sOf (top (nat_lit 32))), (nat_lit 3), [], .none, .none, .none, (.str (.ofString "snobol.heap") (nat_lit 616)), none, (.ref (nat_lit 335)), .none, (nat_lit 0)⟩), #[]⟩ :: t
noncomputable def c10 (P : Params) (t : List Obj) : List Obj := ⟨(.type "tuple"), none, (.seq #[] (nat_lit 0)), #[]⟩ :: ⟨.none, none, (.fields #[]), #[]⟩ :: ⟨.none, none, (.func ⟨(.ofString "collect"), (.ofString "collect"), (aOf (top (nat_lit 33))), (.stmts (bOf (top (nat_lit 33)))), (sOf (top (nat_lit 33))), (nat_lit 0), [], .none, .none, .none, .none, none, .none, .none, (nat_lit 0)⟩), #[]⟩ :: ⟨(.type "code"), none, (.fields #[(.str (.ofString "collect") (nat_lit 672)), (.str (.ofString "collect") (nat_lit 673)), (.str (.ofString "/claim/cut.py") (nat_lit 674)), (.int (.ofNat (nat_lit 187)) (nat_lit 0)), (.int (.ofNat (nat_lit 2)) (nat_lit 0)), (.int (.ofNat (nat_lit 0)) (nat_lit 0)), (.int (.ofNat (nat_lit 0)) (nat_lit 0)), (.int (.ofNat (nat_lit 3)) (nat_lit 0)), (.ref (nat_lit 337)), (.bool true), (.int (.ofNat (nat_lit 181)) (nat_lit 0)), (.ref (nat_lit 338)), .none, .none, .none, (.ref (nat_lit 339)), (.int (.ofNat (nat_lit 675)) (nat_lit 0)), (.int (.ofNat (nat_lit 187)) (nat_lit 0)), (.str (.ofString "/claim/cut.py") (nat_lit 676))]), #[]⟩ :: ⟨(.type "function"), none, (.func ⟨(.ofString "collect"), (.ofString "collect"), (aOf (top (nat_lit 33))), (.stmts (bOf (top (nat_lit 33)))), (sOf (top (nat_lit 33))), (nat_lit 3), [], .none, .none, .none, (.str (.ofString "snobol.heap") (nat_lit 616)), none, (.ref (nat_lit 340)), .none, (nat_lit 0)⟩), #[]⟩ :: ⟨(.type "tuple"), none, (.seq #[] (nat_lit 0)), #[]⟩ :: ⟨.none, none, (.fields #[]), #[]⟩ :: ⟨(.type "tuple"), none, (.seq #[(.str (.ofString "thing") (nat_lit 683)), (.str (.ofString "field") (nat_lit 684))] (nat_lit 0)), #[]⟩ :: ⟨(.type "tuple"), none, (.seq #[] (nat_lit 0)), #[]⟩ :: ⟨.none, none, (.func ⟨(.ofString "_law_get"), (.ofString "_law_get"), (aOf (top (nat_lit 35))), (.stmts (bOf (top (nat_lit 35)))), (sOf (top (nat_lit 35))), (nat_lit 0), [], .none, .none, .none, .none, none, .none, .none, (nat_lit 0)⟩), #[]⟩ :: ⟨(.type "code"), none, (.fields #[(.str (.ofString "_law_get") (nat_lit 680)), (.str (.ofString "_law_get") (nat_lit 681)), (.str (.ofString "/claim/cut.py") (nat_lit 682)), (.int (.ofNat (nat_lit 195)) (nat_lit 0)), (.int (.ofNat (nat_lit 2)) (nat_lit 0)), (.int (.ofNat (nat_lit 0)) (nat_lit 0)), (.int (.ofNat (nat_lit 0)) (nat_lit 0)), (.int (.ofNat (nat_lit 3)) (nat_lit 0)), (.ref (nat_lit 342)), (.bool true), (.int (.ofNat (nat_lit 181)) (nat_lit 0)), (.ref (nat_lit 343)), .none, (.ref (nat_lit 344)), (.ref (nat_lit 345)), (.ref (nat_lit 346)), (.int (.ofNat (nat_lit 685)) (nat_lit 0)), (.int (.ofNat (nat_lit 195)) (nat_lit 0)), (.str (.ofString "/claim/cut.py") (nat_lit 686))]), #[]⟩ :: ⟨(.type "function"), none, (.func ⟨(.ofString "_law_get"), (.ofString "_law_get"), (aOf (top (nat_lit 35))), (.stmts (bOf (top (nat_lit 35)))), (sOf (top (nat_lit 35))), (nat_lit 3), [], .none, .none, .none, (.str (.ofString "law_sj0191_01") (nat_lit 678)), none, (.ref (nat_lit 347)), .none, (nat_lit 0)⟩), #[]⟩ :: ⟨(.type "tuple"), none, (.seq #[] (nat_lit 0)), #[]⟩ :: ⟨.none, none, (.fields #[]), #[]⟩ :: ⟨(.type "tuple"), none, (.seq #[(.str (.ofString "thing") (nat_lit 691)), (.str (.ofString "field") (nat_lit 692)), (.str (.ofString "value") (nat_lit 693))] (nat_lit 0)), #[]⟩ :: ⟨(.type "tuple"), none, (.seq #[] (nat_lit 0)), #[]⟩ :: ⟨.none, none, (.func ⟨(.ofString "_law_put"), (.ofString "_law_put"), (aOf (top (nat_lit 36))), (.stmts (bOf (top (nat_lit 36)))), (sOf (top (nat_lit 36))), (nat_lit 0), [], .none, .none, .none, .none, none, .none, .none, (nat_lit 0)⟩), #[]⟩ :: ⟨(.type "code"), none, (.fields #[(.str (.ofString "_law_put") (nat_lit 688)), (.str (.ofString "_law_put") (nat_lit 689)), (.str (.ofString "/claim/cut.py") (nat_lit 690)), (.int (.ofNat (nat_lit 197)) (nat_lit 0)), (.int (.ofNat (nat_lit 3)) (nat_lit 0)), (.int (.ofNat (nat_lit 0)) (nat_lit 0)), (.int (.ofNat (nat_lit 0)) (nat_lit 0)), (.int (.ofNat (nat_lit 3)) (nat_lit 0)), (.ref (nat_lit 349)), (.bool true), (.int (.ofNat (nat_lit 181)) (nat_lit 0)), (.ref (nat_lit 350)), .none, (.ref (nat_lit 351)), (.ref (nat_lit 352)), (.ref (nat_lit 353)), (.int (.ofNat (nat_lit 694)) (nat_lit 0)), (.int (.ofNat (nat_lit 197)) (nat_lit 0)), (.str (.ofString "/claim/cut.py") (nat_lit 695))]), #[]⟩ :: ⟨(.type "function"), none, (.func ⟨(.ofString "_law_put"), (.ofString "_law_put"), (aOf (top (nat_lit 36))), (.stmts (bOf (top (nat_lit 36)))), (sOf (top (nat_lit 36))), (nat_lit 3), [], .none, .none, .none, (.str (.ofString "law_sj0191_01") (nat_lit 678)), none, (.ref (nat_lit 354)), .none, (nat_lit 0)⟩), #[]⟩ :: ⟨(.type "tuple"), none, (.seq #[] (nat_lit 0)), #[]⟩ :: ⟨.none, none, (.fields #[]), #[]⟩ :: ⟨(.type "tuple"), none, (.seq #[(.str (.ofString "thing") (nat_lit 700))] (nat_lit 0)), #[]⟩ :: ⟨(.type "tuple"), none, (.seq #[] (nat_lit 0)), #[]⟩ :: ⟨.none, none, (.func ⟨(.ofString "_law_keys"), (.ofString "_law_keys"), (aOf (top (nat_lit 37))), (.stmts (bOf (top (nat_lit 37)))), (sOf (top (nat_lit 37))), (nat_lit 0), [], .none, .none, .none, .none, none, .none, .none, (nat_lit 0)⟩), #[]⟩ :: ⟨(.type "code"), none, (.fields #[(.str (.ofString "_law_keys") (nat_lit 697)), (.str (.ofString "_law_keys") (nat_lit 698)), (.str (.ofString "/claim/cut.py") (nat_lit 699)), (.int (.ofNat (nat_lit 199)) (nat_lit 0)), (.int (.ofNat (nat_lit 1)) (nat_lit 0)), (.int (.ofNat (nat_lit 0)) (nat_lit 0)), (.int (.ofNat (nat_lit 0)) (nat_lit 0)), (.int (.ofNat (nat_lit 3)) (nat_lit 0)), (.ref (nat_lit 356)), (.bool true), (.int (.ofNat (nat_lit 181)) (nat_lit 0)), (.ref (nat_lit 357)), .none, (.ref (nat_lit 358)), (.ref (nat_lit 359)), (.ref (nat_lit 360)), (.int (.ofNat (nat_lit 701)) (nat_lit 0)), (.int (.ofNat (nat_lit 199)) (nat_lit 0)), (.str (.ofString "/claim/cut.py") (nat_lit 702))]), #[]⟩ :: ⟨(.type "function"), none, (.func ⟨(.ofString "_law_keys"), (.ofString "_law_keys"), (aOf (top (nat_lit 37))), (.stmts (bOf (top (nat_lit 37)))), (sOf (top (nat_lit 37))), (nat_lit 3), [], .none, .none, .none, (.str (.ofString "law_sj0191_01") (nat_lit 678)), none, (.ref (nat_lit 361)), .none, (nat_lit 0)⟩), #[]⟩ :: ⟨(.type "tuple"), none, (.seq #[] (nat_lit 0)), #[]⟩ :: ⟨.none, none, (.fields #[]), #[]⟩ :: ⟨.none, none, (.func ⟨(.ofString "_law_links"), (.ofString "_law_links"), (aOf (top (nat_lit 38))), (.stmts (bOf (top (nat_lit 38)))), (sOf (top (nat_lit 38))), (nat_lit 0), [], .none, .none, .none, .none, none, .none, .none, (nat_lit 0)⟩), #[]⟩ :: ⟨(.type "code"), none, (.fields #[(.str (.ofString "_law_links") (nat_lit 704)), (.str (.ofString "_law_links") (nat_lit 705)), (.str (.ofString "/claim/cut.py") (nat_lit 706)), (.int (.ofNat (nat_lit 203)) (nat_lit 0)), (.int (.ofNat (nat_lit 1)) (nat_lit 0)), (.int (.ofNat (nat_lit 0)) (nat_lit 0)), (.int (.ofNat (nat_lit 0)) (nat_lit 0)), (.int (.ofNat (nat_lit 3)) (nat_lit 0)), (.ref (nat_lit 363)), (.bool true), (.int (.ofNat (nat_lit 181)) (nat_lit 0)), (.ref (nat_lit 364)), .none, .none, .none, (.ref (nat_lit 365)), (.int (.ofNat (nat_lit 707)) (nat_lit 0)), (.int (.ofNat (nat_lit 203)) (nat_lit 0)), (.str (.ofString "/claim/cut.py") (nat_lit 708))]), #[]⟩ :: ⟨(.type "function"), none, (.func ⟨(.ofString "_law_links"), (.ofString "_law_links"), (aOf (top (nat_lit 38))), (.stmts (bOf (top (nat_lit 38)))), (sOf (top (nat_lit 38))), (nat_lit 3), [], .none, .none, .none, (.str (.ofString "law_sj0191_01") (nat_lit 678)), none, (.ref (nat_lit 366)), .none, (nat_lit 0)⟩), #[]⟩ :: ⟨(.type "tuple"), none, (.seq #[] (nat_lit 0)), #[]⟩ :: ⟨.none, none, (.fields #[]), #[]⟩ :: ⟨(.type "tuple"), none, (.seq #[(.str (.ofString "owner") (nat_lit 713)), (.str (.ofString "field") (nat_lit 714)), (.str (.ofString "side") (nat_lit 715)), (.str (.ofString "upper") (nat_lit 716)), (.str (.ofString "opposite") (nat_lit 717)), (.str (.ofString "lower") (nat_lit 718))] (nat_lit 0)), #[]⟩ :: ⟨(.type "tuple"), none, (.seq #[] (nat_lit 0)), #[]⟩ :: ⟨.none, none, (.func ⟨(.ofString "_law_turn"), (.ofString "_law_turn"), (aOf (top (nat_lit 39))), (.stmts (bOf (top (nat_lit 39)))), (sOf (top (nat_lit 39))), (nat_lit 0), [], .none, .none, .none, .none, none, .none, .none, (nat_lit 0)⟩), #[]⟩ :: ⟨(.type "code"), none, (.fields #[(.str (.ofString "_law_turn") (nat_lit 710)), (.str (.ofString "_law_turn") (nat_lit 711)), (.str (.ofString "/claim/cut.py") (nat_lit 712)), (.int (.ofNat (nat_lit 206)) (nat_lit 0)), (.int (.ofNat (nat_lit 3)) (nat_lit 0)), (.int (.ofNat (nat_lit 0)) (nat_lit 0)), (.int (.ofNat (nat_lit 0)) (nat_lit 0)), (.int (.ofNat (nat_lit 3)) (nat_lit 0)), (.ref (nat_lit 368)), (.bool true), (.int (.ofNat (nat_lit 181)) (nat_lit 0)), (.ref (nat_lit 369)), .none, (.ref (nat_lit 370)), (.ref (nat_lit 371)), (.ref (nat_lit 372)), (.int (.ofNat (nat_lit 719)) (nat_lit 0)), (.int (.ofNat (nat_lit 206)) (nat_lit 0)), (.str (.ofString "/claim/cut.py") (nat_lit 720))]), #[]⟩ :: ⟨(.type "function"), none, (.func ⟨(.ofString "_law_turn"), (.ofString "_law_turn"), (aOf (top (nat_lit 39))), (.stmts (bOf (top (nat_lit 39)))), (sOf (top (nat_lit 39))), (nat_lit 3), [], .none, .none, .none, (.str (.ofString "law_sj0191_01") (nat_lit 678)), none, (.ref (nat_lit 373)), .none, (nat_lit 0)⟩), #[]⟩ :: ⟨(.type "tuple"), none, (.seq #[] (nat_lit 0)), #[]⟩ :: ⟨.none, none, (.fields #[]), #[]⟩ :: ⟨(.type "tuple"), none, (.seq #[(.str (.ofString "world") (nat_lit 725)), (.str (.ofString "first") (nat_lit 726)), (.str (.ofString "keys") (nat_lit 727)), (.str (.ofString "things") (nat_lit 728)), (.str (.ofString "key") (nat_lit 729)), (.str (.ofString "owner") (nat_lit 730)), (.str (.ofString "field") (nat_lit 731)), (.str (.ofString "thing") (nat_lit 732))] (nat_lit 0)), #[]⟩ :: ⟨(.type "tuple"), none, (.seq #[] (nat_lit 0)), #[]⟩ :: ⟨.none, none, (.func ⟨(.ofString "_law_grown"), (.ofString "_law_grown"), (aOf (top (nat_lit 40))), (.stmts (bOf (top (nat_lit 40)))), (sOf (top (nat_lit 40))), (nat_lit 0), [], .none, .none, .none, .none, none, .none, .none, (nat_lit 0)⟩), #[]⟩ :: ⟨(.type "code"), none, (.fields #[(.str (.ofString "_law_grown") (nat_lit 722)), (.str (.ofString "_law_grown") (nat_lit 723)), (.str (.ofString "/claim/cut.py") (nat_lit 724)), (.int (.ofNat (nat_lit 215)) (nat_lit 0)), (.int (.ofNat (nat_lit 3)) (nat_lit 0)), (.int (.ofNat (nat_lit 0)) (nat_lit 0)), (.int (.ofNat (nat_lit 0)) (nat_lit 0)), (.int (.ofNat (nat_lit 3)) (nat_lit 0)), (.ref (nat_lit 375)), (.bool true), (.int (.ofNat (nat_lit 181)) (nat_lit 0)), (.ref (nat_lit 376)), .none, (.ref (nat_lit 377)), (.ref (nat_lit 378)), (.ref (nat_lit 379)), (.int (.ofNat (nat_lit 733)) (nat_lit 0)), (.int (.ofNat (nat_lit 215)) (nat_lit 0)), (.str (.ofString "/claim/cut.py") (nat_lit 734))]), #[]⟩ :: ⟨(.type "function"), none, (.func ⟨(.ofString "_law_grown"), (.ofString "_law_grown"), (aOf (top (nat_lit 40))), (.stmts (bOf (top (nat_lit 40)))), (sOf (top (nat_lit 40))), (nat_lit 3), [], .none, .none, .none, (.str (.ofString "law_sj0191_01") (nat_lit 678)), none, (.ref (nat_lit 380)), .none, (nat_lit 0)⟩), #[]⟩ :: ⟨(.type "tuple"), none, (.seq #[] (nat_lit 0)), #[]⟩ :: ⟨.none, none, (.fields #[]), #[]⟩ :: ⟨(.type "tuple"), none, (.seq #[(.str (.ofString "first") (nat_lit 739)), (.str (.ofString "told") (nat_lit 740)), (.str (.ofString "owner") (nat_lit 741)), (.str (.ofString "field") (nat_lit 742)), (.str (.ofString "left") (nat_lit 743)), (.str (.ofString "turn") (nat_lit 744)), (.str (.ofString "lower") (nat_lit 745)), (.str (.ofString "side") (nat_lit 746))] (nat_lit 0)), #[]⟩ :: ⟨(.type "tuple"), none, (.seq #[] (nat_lit 0)), #[]⟩ :: ⟨.none, none, (.func ⟨(.ofString "_law_place"), (.ofString "_law_place"), (aOf (top (nat_lit 41))), (.stmts (bOf (top (nat_lit 41)))), (sOf (top (nat_lit 41))), (nat_lit 0), [], .none, .none, .none, .none, none, .none, .none, (nat_lit 0)⟩), #[]⟩ :: ⟨(.type "code"), none, (.fields #[(.str (.ofString "_law_place") (nat_lit 736)), (.str (.ofString "_law_place") (nat_lit 737)), (.str (.ofString "/claim/cut.py") (nat_lit 738)), (.int (.ofNat (nat_lit 226)) (nat_lit 0)), (.int (.ofNat (nat_lit 2)) (nat_lit 0)), (.int (.ofNat (nat_lit 0)) (nat_lit 0)), (.int (.ofNat (nat_lit 0)) (nat_lit 0)), (.int (.ofNat (nat_lit 3)) (nat_lit 0)), (.ref (nat_lit 382)), (.bool true), (.int (.ofNat (nat_lit 181)) (nat_lit 0)), (.ref (nat_lit 383)), .none, (.ref (nat_lit 384)), (.ref (nat_lit 385)), (.ref (nat_lit 386)), (.int (.ofNat (nat_lit 747)) (nat_lit 0)), (.int (.ofNat (nat_lit 226)) (nat_lit 0)), (.str (.ofString "/claim/cut.py") (nat_lit 748))]), #[]⟩ :: ⟨(.type "function"), none, (.func ⟨(.ofString "_law_place"), (.ofString "_law_place"), (aOf (top (nat_lit 41))), (.stmts (bOf (top (nat_lit 41)))), (sOf (top (nat_lit 41))), (nat_lit 3), [], .none, .none, .none, (.str (.ofString "law_sj0191_01") (nat_lit 678)), none, (.ref (nat_lit 387)), .none, (nat_lit 0)⟩), #[]⟩ :: ⟨(.type "tuple"), none, (.seq #[] (nat_lit 0)), #[]⟩ :: ⟨.none, none, (.fields #[]), #[]⟩ :: ⟨.none, none, (.func ⟨(.ofString "law"), (.ofString "law"), (aOf (top (nat_lit 42))), (.stmts (bOf (top (nat_lit 42)))), (sOf (top (nat_lit 42))), (nat_lit 0), [], .none, .none, .none, .none, none, .none, .none, (nat_lit 0)⟩), #[]⟩ :: ⟨(.type "code"), none, (.fields #[(.str (.ofString "law") (nat_lit 750)), (.str (.ofString "law") (nat_lit 751)), (.str (.ofString "/claim/cut.py") (nat_lit 752)), (.int (.ofNat (nat_lit 235)) (nat_lit 0)), (.int (.ofNat (nat_lit 1)) (nat_lit 0)), (.int (.ofNat (nat_lit 0)) (nat_lit 0)), (.int (.ofNat (nat_lit 0)) (nat_lit 0)), (.int (.ofNat (nat_lit 3)) (nat_lit 0)), (.ref (nat_lit 389)), (.bool true), (.int (.ofNat (nat_lit 181)) (nat_lit 0)), (.ref (nat_lit 390)), .none, .none, .none, (.ref (nat_lit 391)), (.int (.ofNat (nat_lit 753)) (nat_lit 0)), (.int (.ofNat (nat_lit 235)) (nat_lit 0)), (.str (.ofString "/claim/cut.py") (nat_lit 754))]), #[]⟩ :: ⟨(.type "function"), none, (.func ⟨(.ofString "law"), (.ofString "law"), (aOf (top (nat_lit 42))), (.stmts (bOf (top (nat_lit 42)))), (sOf (top (nat_lit 42))), (nat_lit 3), [], .none, .none, .none, (.str (.ofString "law_sj0191_01") (nat_lit 678)), none, (.ref (nat_lit 392)), .none, (nat_lit 0)⟩), #[]⟩ :: t
noncomputable def st (l : List Obj) (k : Nat) (os : OsState) : Shared := ⟨⟨⟨l⟩, ⟨[], [], [], (nat_lit 0), [], [], false, #[], [], (nat_lit 0), false, false, false, (.ofNat (nat_lit 0)), [(.ofNat (nat_lit 2000)), (.ofNat (nat_lit 10)), (.ofNat (nat_lit 10))], false, (nat_lit 0), true, [], [], (nat_lit 0), false⟩⟩, ⟨[]⟩, ⟨0, 0, 0, 0⟩, k, os⟩
noncomputable def v2_2 (P : Params) : Obj := ⟨.none, none, (.dict #[⟨(PyData.keyHash P (.ofString "type.__subclasses__.Exception.0")), (.str (.ofString "type.__subclasses__.Exception.0") (nat_lit 219)), (.int (.ofNat (nat_lit 34)) (nat_lit 0))⟩, ⟨(PyData.keyHash P (.ofString "type.__subclasses__.Exception.n")), (.str (.ofString "type.__subclasses__.Exception.n") (nat_lit 220)), (.int (.ofNat (nat_lit 1)) (nat_lit 0))⟩] (nat_lit 2)), #[]⟩
noncomputable def v138_7 (P : Params) : Obj := ⟨(.type "type"), none, (.cls ⟨(.ofString "Holder"), [(.type "object")], [(.ref (nat_lit 138)), (.type "object")], (nat_lit 137), (.ofString "Holder"), true, [], [(.ref (nat_lit 187)), (.ref (nat_lit 206)), (.ref (nat_lit 225))], false, none, false⟩), #[none, none, (some (.str (.ofString "Holder") (nat_lit 343))), (some (.str (.ofString "Holder") (nat_lit 351))), (some (.builtin "object.__new__")), (some (.bool true))]⟩
noncomputable def l1 (P : Params) : List Obj := c1 P ((boot_o_2 P)) ((boot_o_3 P)) (⟨.none, none, (.fields #[]), #[]⟩) []
noncomputable def l2 (P : Params) : List Obj := c1 P (v2_2 P) (⟨(.type "dict"), none, (.dict #[⟨(PyData.keyHash P (.ofString "__name__")), (.str (.ofString "__name__") (nat_lit 165)), (.str (.ofString "snobol.values") (nat_lit 187))⟩, ⟨(PyData.keyHash P (.ofString "__doc__")), (.str (.ofString "__doc__") (nat_lit 166)), .none⟩, ⟨(PyData.keyHash P (.ofString "__package__")), (.str (.ofString "__package__") (nat_lit 167)), .none⟩, ⟨(PyData.keyHash P (.ofString "__loader__")), (.str (.ofString "__loader__") (nat_lit 168)), (.builtin "__main__.__loader__#opaque")⟩, ⟨(PyData.keyHash P (.ofString "__spec__")), (.str (.ofString "__spec__") (nat_lit 169)), .none⟩, ⟨(PyData.keyHash P (.ofString "__annotations__")), (.str (.ofString "__annotations__") (nat_lit 170)), (.ref (nat_lit 6))⟩, ⟨(PyData.keyHash P (.ofString "__builtins__")), (.str (.ofString "__builtins__") (nat_lit 171)), (.ref (nat_lit 4))⟩, ⟨(PyData.keyHash P (.ofString "__file__")), (.str (.ofString "__file__") (nat_lit 173)), (.str (.ofString "/claim/cut.py") (nat_lit 172))⟩, ⟨(PyData.keyHash P (.ofString "__cached__")), (.str (.ofString "__cached__") (nat_lit 174)), .none⟩, ⟨(PyData.keyHash P (.ofString "SnobolError")), (.str (.ofString "SnobolError") (nat_lit 222)), (.ref (nat_lit 34))⟩, ⟨(PyData.keyHash P (.ofString "Pattern")), (.str (.ofString "Pattern") (nat_lit 251)), (.ref (nat_lit 54))⟩] (nat_lit 11)), #[]⟩) (⟨.none, none, (.fields #[(.int (.ofNat (nat_lit 2)) (nat_lit 0)), (.int (.ofNat (nat_lit 0)) (nat_lit 0)), (.ref (nat_lit 21)), (.int (.ofNat (nat_lit 8)) (nat_lit 0)), (.int (.ofNat (nat_lit 0)) (nat_lit 0)), (.ref (nat_lit 43))]), #[]⟩) (c2 P [])
noncomputable def l3 (P : Params) : List Obj := c1 P (v2_2 P) (⟨(.type "dict"), none, (.dict #[⟨(PyData.keyHash P (.ofString "__name__")), (.str (.ofString "__name__") (nat_lit 165)), (.str (.ofString "snobol.values") (nat_lit 187))⟩, ⟨(PyData.keyHash P (.ofString "__doc__")), (.str (.ofString "__doc__") (nat_lit 166)), .none⟩, ⟨(PyData.keyHash P (.ofString "__package__")), (.str (.ofString "__package__") (nat_lit 167)), .none⟩, ⟨(PyData.keyHash P (.ofString "__loader__")), (.str (.ofString "__loader__") (nat_lit 168)), (.builtin "__main__.__loader__#opaque")⟩, ⟨(PyData.keyHash P (.ofString "__spec__")), (.str (.ofString "__spec__") (nat_lit 169)), .none⟩, ⟨(PyData.keyHash P (.ofString "__annotations__")), (.str (.ofString "__annotations__") (nat_lit 170)), (.ref (nat_lit 6))⟩, ⟨(PyData.keyHash P (.ofString "__builtins__")), (.str (.ofString "__builtins__") (nat_lit 171)), (.ref (nat_lit 4))⟩, ⟨(PyData.keyHash P (.ofString "__file__")), (.str (.ofString "__file__") (nat_lit 173)), (.str (.ofString "/claim/cut.py") (nat_lit 172))⟩, ⟨(PyData.keyHash P (.ofString "__cached__")), (.str (.ofString "__cached__") (nat_lit 174)), .none⟩, ⟨(PyData.keyHash P (.ofString "SnobolError")), (.str (.ofString "SnobolError") (nat_lit 222)), (.ref (nat_lit 34))⟩, ⟨(PyData.keyHash P (.ofString "Pattern")), (.str (.ofString "Pattern") (nat_lit 251)), (.ref (nat_lit 54))⟩, ⟨(PyData.keyHash P (.ofString "Delayed")), (.str (.ofString "Delayed") (nat_lit 280)), (.ref (nat_lit 75))⟩, ⟨(PyData.keyHash P (.ofString "Code")), (.str (.ofString "Code") (nat_lit 309)), (.ref (nat_lit 96))⟩] (nat_lit 13)), #[]⟩) (⟨.none, none, (.fields #[(.int (.ofNat (nat_lit 2)) (nat_lit 0)), (.int (.ofNat (nat_lit 0)) (nat_lit 0)), (.ref (nat_lit 21)), (.int (.ofNat (nat_lit 8)) (nat_lit 0)), (.int (.ofNat (nat_lit 0)) (nat_lit 0)), (.ref (nat_lit 43)), (.int (.ofNat (nat_lit 12)) (nat_lit 0)), (.int (.ofNat (nat_lit 0)) (nat_lit 0)), (.ref (nat_lit 64)), (.int (.ofNat (nat_lit 16)) (nat_lit 0)), (.int (.ofNat (nat_lit 0)) (nat_lit 0)), (.ref (nat_lit 85))]), #[]⟩) (c2 P (c3 P []))
noncomputable def l4 (P : Params) : List Obj := c1 P (v2_2 P) (⟨(.type "dict"), none, (.dict #[⟨(PyData.keyHash P (.ofString "__name__")), (.str (.ofString "__name__") (nat_lit 165)), (.str (.ofString "snobol.values") (nat_lit 187))⟩, ⟨(PyData.keyHash P (.ofString "__doc__")), (.str (.ofString "__doc__") (nat_lit 166)), .none⟩, ⟨(PyData.keyHash P (.ofString "__package__")), (.str (.ofString "__package__") (nat_lit 167)), .none⟩, ⟨(PyData.keyHash P (.ofString "__loader__")), (.str (.ofString "__loader__") (nat_lit 168)), (.builtin "__main__.__loader__#opaque")⟩, ⟨(PyData.keyHash P (.ofString "__spec__")), (.str (.ofString "__spec__") (nat_lit 169)), .none⟩, ⟨(PyData.keyHash P (.ofString "__annotations__")), (.str (.ofString "__annotations__") (nat_lit 170)), (.ref (nat_lit 6))⟩, ⟨(PyData.keyHash P (.ofString "__builtins__")), (.str (.ofString "__builtins__") (nat_lit 171)), (.ref (nat_lit 4))⟩, ⟨(PyData.keyHash P (.ofString "__file__")), (.str (.ofString "__file__") (nat_lit 173)), (.str (.ofString "/claim/cut.py") (nat_lit 172))⟩, ⟨(PyData.keyHash P (.ofString "__cached__")), (.str (.ofString "__cached__") (nat_lit 174)), .none⟩, ⟨(PyData.keyHash P (.ofString "SnobolError")), (.str (.ofString "SnobolError") (nat_lit 222)), (.ref (nat_lit 34))⟩, ⟨(PyData.keyHash P (.ofString "Pattern")), (.str (.ofString "Pattern") (nat_lit 251)), (.ref (nat_lit 54))⟩, ⟨(PyData.keyHash P (.ofString "Delayed")), (.str (.ofString "Delayed") (nat_lit 280)), (.ref (nat_lit 75))⟩, ⟨(PyData.keyHash P (.ofString "Code")), (.str (.ofString "Code") (nat_lit 309)), (.ref (nat_lit 96))⟩, ⟨(PyData.keyHash P (.ofString "NameRef")), (.str (.ofString "NameRef") (nat_lit 342)), (.ref (nat_lit 117))⟩, ⟨(PyData.keyHash P (.ofString "Holder")), (.str (.ofString "Holder") (nat_lit 374)), (.ref (nat_lit 138))⟩] (nat_lit 15)), #[]⟩) (⟨.none, none, (.fields #[(.int (.ofNat (nat_lit 2)) (nat_lit 0)), (.int (.ofNat (nat_lit 0)) (nat_lit 0)), (.ref (nat_lit 21)), (.int (.ofNat (nat_lit 8)) (nat_lit 0)), (.int (.ofNat (nat_lit 0)) (nat_lit 0)), (.ref (nat_lit 43)), (.int (.ofNat (nat_lit 12)) (nat_lit 0)), (.int (.ofNat (nat_lit 0)) (nat_lit 0)), (.ref (nat_lit 64)), (.int (.ofNat (nat_lit 16)) (nat_lit 0)), (.int (.ofNat (nat_lit 0)) (nat_lit 0)), (.ref (nat_lit 85)), (.int (.ofNat (nat_lit 20)) (nat_lit 0)), (.int (.ofNat (nat_lit 0)) (nat_lit 0)), (.ref (nat_lit 106)), (.int (.ofNat (nat_lit 26)) (nat_lit 0)), (.int (.ofNat (nat_lit 0)) (nat_lit 0)), (.ref (nat_lit 127))]), #[]⟩) (c2 P (c3 P (c4 P (⟨(.type "type"), none, (.cls ⟨(.ofString "Holder"), [(.type "object")], [(.ref (nat_lit 138)), (.type "object")], (nat_lit 137), (.ofString "Holder"), true, [], [], false, none, false⟩), #[none, none, (some (.str (.ofString "Holder") (nat_lit 343))), (some (.str (.ofString "Holder") (nat_lit 351))), (some (.builtin "object.__new__")), (some (.bool true))]⟩) [])))
noncomputable def l5 (P : Params) : List Obj := c1 P (v2_2 P) (⟨(.type "dict"), none, (.dict #[⟨(PyData.keyHash P (.ofString "__name__")), (.str (.ofString "__name__") (nat_lit 165)), (.str (.ofString "snobol.aggregates") (nat_lit 406))⟩, ⟨(PyData.keyHash P (.ofString "__doc__")), (.str (.ofString "__doc__") (nat_lit 166)), .none⟩, ⟨(PyData.keyHash P (.ofString "__package__")), (.str (.ofString "__package__") (nat_lit 167)), .none⟩, ⟨(PyData.keyHash P (.ofString "__loader__")), (.str (.ofString "__loader__") (nat_lit 168)), (.builtin "__main__.__loader__#opaque")⟩, ⟨(PyData.keyHash P (.ofString "__spec__")), (.str (.ofString "__spec__") (nat_lit 169)), .none⟩, ⟨(PyData.keyHash P (.ofString "__annotations__")), (.str (.ofString "__annotations__") (nat_lit 170)), (.ref (nat_lit 6))⟩, ⟨(PyData.keyHash P (.ofString "__builtins__")), (.str (.ofString "__builtins__") (nat_lit 171)), (.ref (nat_lit 4))⟩, ⟨(PyData.keyHash P (.ofString "__file__")), (.str (.ofString "__file__") (nat_lit 173)), (.str (.ofString "/claim/cut.py") (nat_lit 172))⟩, ⟨(PyData.keyHash P (.ofString "__cached__")), (.str (.ofString "__cached__") (nat_lit 174)), .none⟩, ⟨(PyData.keyHash P (.ofString "SnobolError")), (.str (.ofString "SnobolError") (nat_lit 222)), (.ref (nat_lit 34))⟩, ⟨(PyData.keyHash P (.ofString "Pattern")), (.str (.ofString "Pattern") (nat_lit 251)), (.ref (nat_lit 54))⟩, ⟨(PyData.keyHash P (.ofString "Delayed")), (.str (.ofString "Delayed") (nat_lit 280)), (.ref (nat_lit 75))⟩, ⟨(PyData.keyHash P (.ofString "Code")), (.str (.ofString "Code") (nat_lit 309)), (.ref (nat_lit 96))⟩, ⟨(PyData.keyHash P (.ofString "NameRef")), (.str (.ofString "NameRef") (nat_lit 342)), (.ref (nat_lit 117))⟩, ⟨(PyData.keyHash P (.ofString "Holder")), (.str (.ofString "Holder") (nat_lit 374)), (.ref (nat_lit 138))⟩, ⟨(PyData.keyHash P (.ofString "kind_of")), (.str (.ofString "kind_of") (nat_lit 381)), (.ref (nat_lit 149))⟩, ⟨(PyData.keyHash P (.ofString "text_of_whole")), (.str (.ofString "text_of_whole") (nat_lit 390)), (.ref (nat_lit 156))⟩, ⟨(PyData.keyHash P (.ofString "to_text")), (.str (.ofString "to_text") (nat_lit 397)), (.ref (nat_lit 163))⟩, ⟨(PyData.keyHash P (.ofString "need_text")), (.str (.ofString "need_text") (nat_lit 405)), (.ref (nat_lit 170))⟩, ⟨(PyData.keyHash P (.ofString "Array")), (.str (.ofString "Array") (nat_lit 437)), (.ref (nat_lit 187))⟩] (nat_lit 20)), #[]⟩) (⟨.none, none, (.fields #[(.int (.ofNat (nat_lit 2)) (nat_lit 0)), (.int (.ofNat (nat_lit 0)) (nat_lit 0)), (.ref (nat_lit 21)), (.int (.ofNat (nat_lit 8)) (nat_lit 0)), (.int (.ofNat (nat_lit 0)) (nat_lit 0)), (.ref (nat_lit 43)), (.int (.ofNat (nat_lit 12)) (nat_lit 0)), (.int (.ofNat (nat_lit 0)) (nat_lit 0)), (.ref (nat_lit 64)), (.int (.ofNat (nat_lit 16)) (nat_lit 0)), (.int (.ofNat (nat_lit 0)) (nat_lit 0)), (.ref (nat_lit 85)), (.int (.ofNat (nat_lit 20)) (nat_lit 0)), (.int (.ofNat (nat_lit 0)) (nat_lit 0)), (.ref (nat_lit 106)), (.int (.ofNat (nat_lit 26)) (nat_lit 0)), (.int (.ofNat (nat_lit 0)) (nat_lit 0)), (.ref (nat_lit 127)), (.int (.ofNat (nat_lit 32)) (nat_lit 0)), (.int (.ofNat (nat_lit 0)) (nat_lit 0)), (.ref (nat_lit 148)), (.int (.ofNat (nat_lit 46)) (nat_lit 0)), (.int (.ofNat (nat_lit 0)) (nat_lit 0)), (.ref (nat_lit 155)), (.int (.ofNat (nat_lit 52)) (nat_lit 0)), (.int (.ofNat (nat_lit 0)) (nat_lit 0)), (.ref (nat_lit 162)), (.int (.ofNat (nat_lit 56)) (nat_lit 0)), (.int (.ofNat (nat_lit 0)) (nat_lit 0)), (.ref (nat_lit 169)), (.int (.ofNat (nat_lit 62)) (nat_lit 0)), (.int (.ofNat (nat_lit 0)) (nat_lit 0)), (.ref (nat_lit 176))]), #[]⟩) (c2 P (c3 P (c4 P (⟨(.type "type"), none, (.cls ⟨(.ofString "Holder"), [(.type "object")], [(.ref (nat_lit 138)), (.type "object")], (nat_lit 137), (.ofString "Holder"), true, [], [(.ref (nat_lit 187))], false, none, false⟩), #[none, none, (some (.str (.ofString "Holder") (nat_lit 343))), (some (.str (.ofString "Holder") (nat_lit 351))), (some (.builtin "object.__new__")), (some (.bool true))]⟩) (c5 P []))))
noncomputable def l6 (P : Params) : List Obj := c1 P (v2_2 P) (⟨(.type "dict"), none, (.dict #[⟨(PyData.keyHash P (.ofString "__name__")), (.str (.ofString "__name__") (nat_lit 165)), (.str (.ofString "snobol.aggregates") (nat_lit 406))⟩, ⟨(PyData.keyHash P (.ofString "__doc__")), (.str (.ofString "__doc__") (nat_lit 166)), .none⟩, ⟨(PyData.keyHash P (.ofString "__package__")), (.str (.ofString "__package__") (nat_lit 167)), .none⟩, ⟨(PyData.keyHash P (.ofString "__loader__")), (.str (.ofString "__loader__") (nat_lit 168)), (.builtin "__main__.__loader__#opaque")⟩, ⟨(PyData.keyHash P (.ofString "__spec__")), (.str (.ofString "__spec__") (nat_lit 169)), .none⟩, ⟨(PyData.keyHash P (.ofString "__annotations__")), (.str (.ofString "__annotations__") (nat_lit 170)), (.ref (nat_lit 6))⟩, ⟨(PyData.keyHash P (.ofString "__builtins__")), (.str (.ofString "__builtins__") (nat_lit 171)), (.ref (nat_lit 4))⟩, ⟨(PyData.keyHash P (.ofString "__file__")), (.str (.ofString "__file__") (nat_lit 173)), (.str (.ofString "/claim/cut.py") (nat_lit 172))⟩, ⟨(PyData.keyHash P (.ofString "__cached__")), (.str (.ofString "__cached__") (nat_lit 174)), .none⟩, ⟨(PyData.keyHash P (.ofString "SnobolError")), (.str (.ofString "SnobolError") (nat_lit 222)), (.ref (nat_lit 34))⟩, ⟨(PyData.keyHash P (.ofString "Pattern")), (.str (.ofString "Pattern") (nat_lit 251)), (.ref (nat_lit 54))⟩, ⟨(PyData.keyHash P (.ofString "Delayed")), (.str (.ofString "Delayed") (nat_lit 280)), (.ref (nat_lit 75))⟩, ⟨(PyData.keyHash P (.ofString "Code")), (.str (.ofString "Code") (nat_lit 309)), (.ref (nat_lit 96))⟩, ⟨(PyData.keyHash P (.ofString "NameRef")), (.str (.ofString "NameRef") (nat_lit 342)), (.ref (nat_lit 117))⟩, ⟨(PyData.keyHash P (.ofString "Holder")), (.str (.ofString "Holder") (nat_lit 374)), (.ref (nat_lit 138))⟩, ⟨(PyData.keyHash P (.ofString "kind_of")), (.str (.ofString "kind_of") (nat_lit 381)), (.ref (nat_lit 149))⟩, ⟨(PyData.keyHash P (.ofString "text_of_whole")), (.str (.ofString "text_of_whole") (nat_lit 390)), (.ref (nat_lit 156))⟩, ⟨(PyData.keyHash P (.ofString "to_text")), (.str (.ofString "to_text") (nat_lit 397)), (.ref (nat_lit 163))⟩, ⟨(PyData.keyHash P (.ofString "need_text")), (.str (.ofString "need_text") (nat_lit 405)), (.ref (nat_lit 170))⟩, ⟨(PyData.keyHash P (.ofString "Array")), (.str (.ofString "Array") (nat_lit 437)), (.ref (nat_lit 187))⟩, ⟨(PyData.keyHash P (.ofString "Table")), (.str (.ofString "Table") (nat_lit 464)), (.ref (nat_lit 206))⟩] (nat_lit 21)), #[]⟩) (⟨.none, none, (.fields #[(.int (.ofNat (nat_lit 2)) (nat_lit 0)), (.int (.ofNat (nat_lit 0)) (nat_lit 0)), (.ref (nat_lit 21)), (.int (.ofNat (nat_lit 8)) (nat_lit 0)), (.int (.ofNat (nat_lit 0)) (nat_lit 0)), (.ref (nat_lit 43)), (.int (.ofNat (nat_lit 12)) (nat_lit 0)), (.int (.ofNat (nat_lit 0)) (nat_lit 0)), (.ref (nat_lit 64)), (.int (.ofNat (nat_lit 16)) (nat_lit 0)), (.int (.ofNat (nat_lit 0)) (nat_lit 0)), (.ref (nat_lit 85)), (.int (.ofNat (nat_lit 20)) (nat_lit 0)), (.int (.ofNat (nat_lit 0)) (nat_lit 0)), (.ref (nat_lit 106)), (.int (.ofNat (nat_lit 26)) (nat_lit 0)), (.int (.ofNat (nat_lit 0)) (nat_lit 0)), (.ref (nat_lit 127)), (.int (.ofNat (nat_lit 32)) (nat_lit 0)), (.int (.ofNat (nat_lit 0)) (nat_lit 0)), (.ref (nat_lit 148)), (.int (.ofNat (nat_lit 46)) (nat_lit 0)), (.int (.ofNat (nat_lit 0)) (nat_lit 0)), (.ref (nat_lit 155)), (.int (.ofNat (nat_lit 52)) (nat_lit 0)), (.int (.ofNat (nat_lit 0)) (nat_lit 0)), (.ref (nat_lit 162)), (.int (.ofNat (nat_lit 56)) (nat_lit 0)), (.int (.ofNat (nat_lit 0)) (nat_lit 0)), (.ref (nat_lit 169)), (.int (.ofNat (nat_lit 62)) (nat_lit 0)), (.int (.ofNat (nat_lit 0)) (nat_lit 0)), (.ref (nat_lit 176)), (.int (.ofNat (nat_lit 69)) (nat_lit 0)), (.int (.ofNat (nat_lit 0)) (nat_lit 0)), (.ref (nat_lit 195))]), #[]⟩) (c2 P (c3 P (c4 P (⟨(.type "type"), none, (.cls ⟨(.ofString "Holder"), [(.type "object")], [(.ref (nat_lit 138)), (.type "object")], (nat_lit 137), (.ofString "Holder"), true, [], [(.ref (nat_lit 187)), (.ref (nat_lit 206))], false, none, false⟩), #[none, none, (some (.str (.ofString "Holder") (nat_lit 343))), (some (.str (.ofString "Holder") (nat_lit 351))), (some (.builtin "object.__new__")), (some (.bool true))]⟩) (c5 P (c6 P [])))))
noncomputable def l7 (P : Params) : List Obj := c1 P (v2_2 P) (⟨(.type "dict"), none, (.dict #[⟨(PyData.keyHash P (.ofString "__name__")), (.str (.ofString "__name__") (nat_lit 165)), (.str (.ofString "snobol.aggregates") (nat_lit 406))⟩, ⟨(PyData.keyHash P (.ofString "__doc__")), (.str (.ofString "__doc__") (nat_lit 166)), .none⟩, ⟨(PyData.keyHash P (.ofString "__package__")), (.str (.ofString "__package__") (nat_lit 167)), .none⟩, ⟨(PyData.keyHash P (.ofString "__loader__")), (.str (.ofString "__loader__") (nat_lit 168)), (.builtin "__main__.__loader__#opaque")⟩, ⟨(PyData.keyHash P (.ofString "__spec__")), (.str (.ofString "__spec__") (nat_lit 169)), .none⟩, ⟨(PyData.keyHash P (.ofString "__annotations__")), (.str (.ofString "__annotations__") (nat_lit 170)), (.ref (nat_lit 6))⟩, ⟨(PyData.keyHash P (.ofString "__builtins__")), (.str (.ofString "__builtins__") (nat_lit 171)), (.ref (nat_lit 4))⟩, ⟨(PyData.keyHash P (.ofString "__file__")), (.str (.ofString "__file__") (nat_lit 173)), (.str (.ofString "/claim/cut.py") (nat_lit 172))⟩, ⟨(PyData.keyHash P (.ofString "__cached__")), (.str (.ofString "__cached__") (nat_lit 174)), .none⟩, ⟨(PyData.keyHash P (.ofString "SnobolError")), (.str (.ofString "SnobolError") (nat_lit 222)), (.ref (nat_lit 34))⟩, ⟨(PyData.keyHash P (.ofString "Pattern")), (.str (.ofString "Pattern") (nat_lit 251)), (.ref (nat_lit 54))⟩, ⟨(PyData.keyHash P (.ofString "Delayed")), (.str (.ofString "Delayed") (nat_lit 280)), (.ref (nat_lit 75))⟩, ⟨(PyData.keyHash P (.ofString "Code")), (.str (.ofString "Code") (nat_lit 309)), (.ref (nat_lit 96))⟩, ⟨(PyData.keyHash P (.ofString "NameRef")), (.str (.ofString "NameRef") (nat_lit 342)), (.ref (nat_lit 117))⟩, ⟨(PyData.keyHash P (.ofString "Holder")), (.str (.ofString "Holder") (nat_lit 374)), (.ref (nat_lit 138))⟩, ⟨(PyData.keyHash P (.ofString "kind_of")), (.str (.ofString "kind_of") (nat_lit 381)), (.ref (nat_lit 149))⟩, ⟨(PyData.keyHash P (.ofString "text_of_whole")), (.str (.ofString "text_of_whole") (nat_lit 390)), (.ref (nat_lit 156))⟩, ⟨(PyData.keyHash P (.ofString "to_text")), (.str (.ofString "to_text") (nat_lit 397)), (.ref (nat_lit 163))⟩, ⟨(PyData.keyHash P (.ofString "need_text")), (.str (.ofString "need_text") (nat_lit 405)), (.ref (nat_lit 170))⟩, ⟨(PyData.keyHash P (.ofString "Array")), (.str (.ofString "Array") (nat_lit 437)), (.ref (nat_lit 187))⟩, ⟨(PyData.keyHash P (.ofString "Table")), (.str (.ofString "Table") (nat_lit 464)), (.ref (nat_lit 206))⟩, ⟨(PyData.keyHash P (.ofString "Data")), (.str (.ofString "Data") (nat_lit 493)), (.ref (nat_lit 225))⟩, ⟨(PyData.keyHash P (.ofString "size_of_bounds")), (.str (.ofString "size_of_bounds") (nat_lit 503)), (.ref (nat_lit 234))⟩, ⟨(PyData.keyHash P (.ofString "field_ref")), (.str (.ofString "field_ref") (nat_lit 511)), (.ref (nat_lit 241))⟩, ⟨(PyData.keyHash P (.ofString "slot_get")), (.str (.ofString "slot_get") (nat_lit 518)), (.ref (nat_lit 248))⟩] (nat_lit 25)), #[]⟩) (⟨.none, none, (.fields #[(.int (.ofNat (nat_lit 2)) (nat_lit 0)), (.int (.ofNat (nat_lit 0)) (nat_lit 0)), (.ref (nat_lit 21)), (.int (.ofNat (nat_lit 8)) (nat_lit 0)), (.int (.ofNat (nat_lit 0)) (nat_lit 0)), (.ref (nat_lit 43)), (.int (.ofNat (nat_lit 12)) (nat_lit 0)), (.int (.ofNat (nat_lit 0)) (nat_lit 0)), (.ref (nat_lit 64)), (.int (.ofNat (nat_lit 16)) (nat_lit 0)), (.int (.ofNat (nat_lit 0)) (nat_lit 0)), (.ref (nat_lit 85)), (.int (.ofNat (nat_lit 20)) (nat_lit 0)), (.int (.ofNat (nat_lit 0)) (nat_lit 0)), (.ref (nat_lit 106)), (.int (.ofNat (nat_lit 26)) (nat_lit 0)), (.int (.ofNat (nat_lit 0)) (nat_lit 0)), (.ref (nat_lit 127)), (.int (.ofNat (nat_lit 32)) (nat_lit 0)), (.int (.ofNat (nat_lit 0)) (nat_lit 0)), (.ref (nat_lit 148)), (.int (.ofNat (nat_lit 46)) (nat_lit 0)), (.int (.ofNat (nat_lit 0)) (nat_lit 0)), (.ref (nat_lit 155)), (.int (.ofNat (nat_lit 52)) (nat_lit 0)), (.int (.ofNat (nat_lit 0)) (nat_lit 0)), (.ref (nat_lit 162)), (.int (.ofNat (nat_lit 56)) (nat_lit 0)), (.int (.ofNat (nat_lit 0)) (nat_lit 0)), (.ref (nat_lit 169)), (.int (.ofNat (nat_lit 62)) (nat_lit 0)), (.int (.ofNat (nat_lit 0)) (nat_lit 0)), (.ref (nat_lit 176)), (.int (.ofNat (nat_lit 69)) (nat_lit 0)), (.int (.ofNat (nat_lit 0)) (nat_lit 0)), (.ref (nat_lit 195)), (.int (.ofNat (nat_lit 76)) (nat_lit 0)), (.int (.ofNat (nat_lit 0)) (nat_lit 0)), (.ref (nat_lit 214)), (.int (.ofNat (nat_lit 82)) (nat_lit 0)), (.int (.ofNat (nat_lit 0)) (nat_lit 0)), (.ref (nat_lit 233)), (.int (.ofNat (nat_lit 87)) (nat_lit 0)), (.int (.ofNat (nat_lit 0)) (nat_lit 0)), (.ref (nat_lit 240)), (.int (.ofNat (nat_lit 93)) (nat_lit 0)), (.int (.ofNat (nat_lit 0)) (nat_lit 0)), (.ref (nat_lit 247))]), #[]⟩) (c2 P (c3 P (c4 P (v138_7 P) (c5 P (c6 P (c7 P []))))))
noncomputable def l8 (P : Params) : List Obj := c1 P (v2_2 P) (⟨(.type "dict"), none, (.dict #[⟨(PyData.keyHash P (.ofString "__name__")), (.str (.ofString "__name__") (nat_lit 165)), (.str (.ofString "snobol.world") (nat_lit 537))⟩, ⟨(PyData.keyHash P (.ofString "__doc__")), (.str (.ofString "__doc__") (nat_lit 166)), .none⟩, ⟨(PyData.keyHash P (.ofString "__package__")), (.str (.ofString "__package__") (nat_lit 167)), .none⟩, ⟨(PyData.keyHash P (.ofString "__loader__")), (.str (.ofString "__loader__") (nat_lit 168)), (.builtin "__main__.__loader__#opaque")⟩, ⟨(PyData.keyHash P (.ofString "__spec__")), (.str (.ofString "__spec__") (nat_lit 169)), .none⟩, ⟨(PyData.keyHash P (.ofString "__annotations__")), (.str (.ofString "__annotations__") (nat_lit 170)), (.ref (nat_lit 6))⟩, ⟨(PyData.keyHash P (.ofString "__builtins__")), (.str (.ofString "__builtins__") (nat_lit 171)), (.ref (nat_lit 4))⟩, ⟨(PyData.keyHash P (.ofString "__file__")), (.str (.ofString "__file__") (nat_lit 173)), (.str (.ofString "/claim/cut.py") (nat_lit 172))⟩, ⟨(PyData.keyHash P (.ofString "__cached__")), (.str (.ofString "__cached__") (nat_lit 174)), .none⟩, ⟨(PyData.keyHash P (.ofString "SnobolError")), (.str (.ofString "SnobolError") (nat_lit 222)), (.ref (nat_lit 34))⟩, ⟨(PyData.keyHash P (.ofString "Pattern")), (.str (.ofString "Pattern") (nat_lit 251)), (.ref (nat_lit 54))⟩, ⟨(PyData.keyHash P (.ofString "Delayed")), (.str (.ofString "Delayed") (nat_lit 280)), (.ref (nat_lit 75))⟩, ⟨(PyData.keyHash P (.ofString "Code")), (.str (.ofString "Code") (nat_lit 309)), (.ref (nat_lit 96))⟩, ⟨(PyData.keyHash P (.ofString "NameRef")), (.str (.ofString "NameRef") (nat_lit 342)), (.ref (nat_lit 117))⟩, ⟨(PyData.keyHash P (.ofString "Holder")), (.str (.ofString "Holder") (nat_lit 374)), (.ref (nat_lit 138))⟩, ⟨(PyData.keyHash P (.ofString "kind_of")), (.str (.ofString "kind_of") (nat_lit 381)), (.ref (nat_lit 149))⟩, ⟨(PyData.keyHash P (.ofString "text_of_whole")), (.str (.ofString "text_of_whole") (nat_lit 390)), (.ref (nat_lit 156))⟩, ⟨(PyData.keyHash P (.ofString "to_text")), (.str (.ofString "to_text") (nat_lit 397)), (.ref (nat_lit 163))⟩, ⟨(PyData.keyHash P (.ofString "need_text")), (.str (.ofString "need_text") (nat_lit 405)), (.ref (nat_lit 170))⟩, ⟨(PyData.keyHash P (.ofString "Array")), (.str (.ofString "Array") (nat_lit 437)), (.ref (nat_lit 187))⟩, ⟨(PyData.keyHash P (.ofString "Table")), (.str (.ofString "Table") (nat_lit 464)), (.ref (nat_lit 206))⟩, ⟨(PyData.keyHash P (.ofString "Data")), (.str (.ofString "Data") (nat_lit 493)), (.ref (nat_lit 225))⟩, ⟨(PyData.keyHash P (.ofString "size_of_bounds")), (.str (.ofString "size_of_bounds") (nat_lit 503)), (.ref (nat_lit 234))⟩, ⟨(PyData.keyHash P (.ofString "field_ref")), (.str (.ofString "field_ref") (nat_lit 511)), (.ref (nat_lit 241))⟩, ⟨(PyData.keyHash P (.ofString "slot_get")), (.str (.ofString "slot_get") (nat_lit 518)), (.ref (nat_lit 248))⟩, ⟨(PyData.keyHash P (.ofString "slot_set")), (.str (.ofString "slot_set") (nat_lit 526)), (.ref (nat_lit 255))⟩, ⟨(PyData.keyHash P (.ofString "data_made")), (.str (.ofString "data_made") (nat_lit 536)), (.ref (nat_lit 262))⟩, ⟨(PyData.keyHash P (.ofString "World")), (.str (.ofString "World") (nat_lit 599)), (.ref (nat_lit 280))⟩] (nat_lit 28)), #[]⟩) (⟨.none, none, (.fields #[(.int (.ofNat (nat_lit 2)) (nat_lit 0)), (.int (.ofNat (nat_lit 0)) (nat_lit 0)), (.ref (nat_lit 21)), (.int (.ofNat (nat_lit 8)) (nat_lit 0)), (.int (.ofNat (nat_lit 0)) (nat_lit 0)), (.ref (nat_lit 43)), (.int (.ofNat (nat_lit 12)) (nat_lit 0)), (.int (.ofNat (nat_lit 0)) (nat_lit 0)), (.ref (nat_lit 64)), (.int (.ofNat (nat_lit 16)) (nat_lit 0)), (.int (.ofNat (nat_lit 0)) (nat_lit 0)), (.ref (nat_lit 85)), (.int (.ofNat (nat_lit 20)) (nat_lit 0)), (.int (.ofNat (nat_lit 0)) (nat_lit 0)), (.ref (nat_lit 106)), (.int (.ofNat (nat_lit 26)) (nat_lit 0)), (.int (.ofNat (nat_lit 0)) (nat_lit 0)), (.ref (nat_lit 127)), (.int (.ofNat (nat_lit 32)) (nat_lit 0)), (.int (.ofNat (nat_lit 0)) (nat_lit 0)), (.ref (nat_lit 148)), (.int (.ofNat (nat_lit 46)) (nat_lit 0)), (.int (.ofNat (nat_lit 0)) (nat_lit 0)), (.ref (nat_lit 155)), (.int (.ofNat (nat_lit 52)) (nat_lit 0)), (.int (.ofNat (nat_lit 0)) (nat_lit 0)), (.ref (nat_lit 162)), (.int (.ofNat (nat_lit 56)) (nat_lit 0)), (.int (.ofNat (nat_lit 0)) (nat_lit 0)), (.ref (nat_lit 169)), (.int (.ofNat (nat_lit 62)) (nat_lit 0)), (.int (.ofNat (nat_lit 0)) (nat_lit 0)), (.ref (nat_lit 176)), (.int (.ofNat (nat_lit 69)) (nat_lit 0)), (.int (.ofNat (nat_lit 0)) (nat_lit 0)), (.ref (nat_lit 195)), (.int (.ofNat (nat_lit 76)) (nat_lit 0)), (.int (.ofNat (nat_lit 0)) (nat_lit 0)), (.ref (nat_lit 214)), (.int (.ofNat (nat_lit 82)) (nat_lit 0)), (.int (.ofNat (nat_lit 0)) (nat_lit 0)), (.ref (nat_lit 233)), (.int (.ofNat (nat_lit 87)) (nat_lit 0)), (.int (.ofNat (nat_lit 0)) (nat_lit 0)), (.ref (nat_lit 240)), (.int (.ofNat (nat_lit 93)) (nat_lit 0)), (.int (.ofNat (nat_lit 0)) (nat_lit 0)), (.ref (nat_lit 247)), (.int (.ofNat (nat_lit 99)) (nat_lit 0)), (.int (.ofNat (nat_lit 0)) (nat_lit 0)), (.ref (nat_lit 254)), (.int (.ofNat (nat_lit 106)) (nat_lit 0)), (.int (.ofNat (nat_lit 0)) (nat_lit 0)), (.ref (nat_lit 261)), (.int (.ofNat (nat_lit 109)) (nat_lit 0)), (.int (.ofNat (nat_lit 0)) (nat_lit 0)), (.ref (nat_lit 268))]), #[]⟩) (c2 P (c3 P (c4 P (v138_7 P) (c5 P (c6 P (c7 P (c8 P [])))))))
noncomputable def l9 (P : Params) : List Obj := c1 P (v2_2 P) (⟨(.type "dict"), none, (.dict #[⟨(PyData.keyHash P (.ofString "__name__")), (.str (.ofString "__name__") (nat_lit 165)), (.str (.ofString "snobol.heap") (nat_lit 616))⟩, ⟨(PyData.keyHash P (.ofString "__doc__")), (.str (.ofString "__doc__") (nat_lit 166)), .none⟩, ⟨(PyData.keyHash P (.ofString "__package__")), (.str (.ofString "__package__") (nat_lit 167)), .none⟩, ⟨(PyData.keyHash P (.ofString "__loader__")), (.str (.ofString "__loader__") (nat_lit 168)), (.builtin "__main__.__loader__#opaque")⟩, ⟨(PyData.keyHash P (.ofString "__spec__")), (.str (.ofString "__spec__") (nat_lit 169)), .none⟩, ⟨(PyData.keyHash P (.ofString "__annotations__")), (.str (.ofString "__annotations__") (nat_lit 170)), (.ref (nat_lit 6))⟩, ⟨(PyData.keyHash P (.ofString "__builtins__")), (.str (.ofString "__builtins__") (nat_lit 171)), (.ref (nat_lit 4))⟩, ⟨(PyData.keyHash P (.ofString "__file__")), (.str (.ofString "__file__") (nat_lit 173)), (.str (.ofString "/claim/cut.py") (nat_lit 172))⟩, ⟨(PyData.keyHash P (.ofString "__cached__")), (.str (.ofString "__cached__") (nat_lit 174)), .none⟩, ⟨(PyData.keyHash P (.ofString "SnobolError")), (.str (.ofString "SnobolError") (nat_lit 222)), (.ref (nat_lit 34))⟩, ⟨(PyData.keyHash P (.ofString "Pattern")), (.str (.ofString "Pattern") (nat_lit 251)), (.ref (nat_lit 54))⟩, ⟨(PyData.keyHash P (.ofString "Delayed")), (.str (.ofString "Delayed") (nat_lit 280)), (.ref (nat_lit 75))⟩, ⟨(PyData.keyHash P (.ofString "Code")), (.str (.ofString "Code") (nat_lit 309)), (.ref (nat_lit 96))⟩, ⟨(PyData.keyHash P (.ofString "NameRef")), (.str (.ofString "NameRef") (nat_lit 342)), (.ref (nat_lit 117))⟩, ⟨(PyData.keyHash P (.ofString "Holder")), (.str (.ofString "Holder") (nat_lit 374)), (.ref (nat_lit 138))⟩, ⟨(PyData.keyHash P (.ofString "kind_of")), (.str (.ofString "kind_of") (nat_lit 381)), (.ref (nat_lit 149))⟩, ⟨(PyData.keyHash P (.ofString "text_of_whole")), (.str (.ofString "text_of_whole") (nat_lit 390)), (.ref (nat_lit 156))⟩, ⟨(PyData.keyHash P (.ofString "to_text")), (.str (.ofString "to_text") (nat_lit 397)), (.ref (nat_lit 163))⟩, ⟨(PyData.keyHash P (.ofString "need_text")), (.str (.ofString "need_text") (nat_lit 405)), (.ref (nat_lit 170))⟩, ⟨(PyData.keyHash P (.ofString "Array")), (.str (.ofString "Array") (nat_lit 437)), (.ref (nat_lit 187))⟩, ⟨(PyData.keyHash P (.ofString "Table")), (.str (.ofString "Table") (nat_lit 464)), (.ref (nat_lit 206))⟩, ⟨(PyData.keyHash P (.ofString "Data")), (.str (.ofString "Data") (nat_lit 493)), (.ref (nat_lit 225))⟩, ⟨(PyData.keyHash P (.ofString "size_of_bounds")), (.str (.ofString "size_of_bounds") (nat_lit 503)), (.ref (nat_lit 234))⟩, ⟨(PyData.keyHash P (.ofString "field_ref")), (.str (.ofString "field_ref") (nat_lit 511)), (.ref (nat_lit 241))⟩, ⟨(PyData.keyHash P (.ofString "slot_get")), (.str (.ofString "slot_get") (nat_lit 518)), (.ref (nat_lit 248))⟩, ⟨(PyData.keyHash P (.ofString "slot_set")), (.str (.ofString "slot_set") (nat_lit 526)), (.ref (nat_lit 255))⟩, ⟨(PyData.keyHash P (.ofString "data_made")), (.str (.ofString "data_made") (nat_lit 536)), (.ref (nat_lit 262))⟩, ⟨(PyData.keyHash P (.ofString "World")), (.str (.ofString "World") (nat_lit 599)), (.ref (nat_lit 280))⟩, ⟨(PyData.keyHash P (.ofString "next_number")), (.str (.ofString "next_number") (nat_lit 606)), (.ref (nat_lit 291))⟩, ⟨(PyData.keyHash P (.ofString "set_var")), (.str (.ofString "set_var") (nat_lit 615)), (.ref (nat_lit 298))⟩, ⟨(PyData.keyHash P (.ofString "FREE")), (.str (.ofString "FREE") (nat_lit 619)), (.int (.ofNat (nat_lit 0)) (nat_lit 618))⟩, ⟨(PyData.keyHash P (.ofString "REACHED")), (.str (.ofString "REACHED") (nat_lit 621)), (.int (.ofNat (nat_lit 1)) (nat_lit 620))⟩, ⟨(PyData.keyHash P (.ofString "held")), (.str (.ofString "held") (nat_lit 629)), (.ref (nat_lit 305))⟩, ⟨(PyData.keyHash P (.ofString "made_data")), (.str (.ofString "made_data") (nat_lit 639)), (.ref (nat_lit 312))⟩, ⟨(PyData.keyHash P (.ofString "things_in_node")), (.str (.ofString "things_in_node") (nat_lit 649)), (.ref (nat_lit 319))⟩, ⟨(PyData.keyHash P (.ofString "things_in")), (.str (.ofString "things_in") (nat_lit 655)), (.ref (nat_lit 324))⟩, ⟨(PyData.keyHash P (.ofString "reach")), (.str (.ofString "reach") (nat_lit 665)), (.ref (nat_lit 331))⟩, ⟨(PyData.keyHash P (.ofString "world_roots")), (.str (.ofString "world_roots") (nat_lit 671)), (.ref (nat_lit 336))⟩] (nat_lit 38)), #[]⟩) (⟨.none, none, (.fields (List.toArray ((.int (.ofNat (nat_lit 2)) (nat_lit 0)) :: (.int (.ofNat (nat_lit 0)) (nat_lit 0)) :: (.ref (nat_lit 21)) :: (.int (.ofNat (nat_lit 8)) (nat_lit 0)) :: (.int (.ofNat (nat_lit 0)) (nat_lit 0)) :: (.ref (nat_lit 43)) :: (.int (.ofNat (nat_lit 12)) (nat_lit 0)) :: (.int (.ofNat (nat_lit 0)) (nat_lit 0)) :: (.ref (nat_lit 64)) :: (.int (.ofNat (nat_lit 16)) (nat_lit 0)) :: (.int (.ofNat (nat_lit 0)) (nat_lit 0)) :: (.ref (nat_lit 85)) :: (.int (.ofNat (nat_lit 20)) (nat_lit 0)) :: (.int (.ofNat (nat_lit 0)) (nat_lit 0)) :: (.ref (nat_lit 106)) :: (.int (.ofNat (nat_lit 26)) (nat_lit 0)) :: (.int (.ofNat (nat_lit 0)) (nat_lit 0)) :: (.ref (nat_lit 127)) :: (.int (.ofNat (nat_lit 32)) (nat_lit 0)) :: (.int (.ofNat (nat_lit 0)) (nat_lit 0)) :: (.ref (nat_lit 148)) :: (.int (.ofNat (nat_lit 46)) (nat_lit 0)) :: (.int (.ofNat (nat_lit 0)) (nat_lit 0)) :: (.ref (nat_lit 155)) :: (.int (.ofNat (nat_lit 52)) (nat_lit 0)) :: (.int (.ofNat (nat_lit 0)) (nat_lit 0)) :: (.ref (nat_lit 162)) :: (.int (.ofNat (nat_lit 56)) (nat_lit 0)) :: (.int (.ofNat (nat_lit 0)) (nat_lit 0)) :: (.ref (nat_lit 169)) :: (.int (.ofNat (nat_lit 62)) (nat_lit 0)) :: (.int (.ofNat (nat_lit 0)) (nat_lit 0)) :: (.ref (nat_lit 176)) :: (.int (.ofNat (nat_lit 69)) (nat_lit 0)) :: (.int (.ofNat (nat_lit 0)) (nat_lit 0)) :: (.ref (nat_lit 195)) :: (.int (.ofNat (nat_lit 76)) (nat_lit 0)) :: (.int (.ofNat (nat_lit 0)) (nat_lit 0)) :: (.ref (nat_lit 214)) :: (.int (.ofNat (nat_lit 82)) (nat_lit 0)) :: (.int (.ofNat (nat_lit 0)) (nat_lit 0)) :: (.ref (nat_lit 233)) :: (.int (.ofNat (nat_lit 87)) (nat_lit 0)) :: (.int (.ofNat (nat_lit 0)) (nat_lit 0)) :: (.ref (nat_lit 240)) :: (.int (.ofNat (nat_lit 93)) (nat_lit 0)) :: (.int (.ofNat (nat_lit 0)) (nat_lit 0)) :: (.ref (nat_lit 247)) :: (.int (.ofNat (nat_lit 99)) (nat_lit 0)) :: (.int (.ofNat (nat_lit 0)) (nat_lit 0)) :: (.ref (nat_lit 254)) :: (.int (.ofNat (nat_lit 106)) (nat_lit 0)) :: (.int (.ofNat (nat_lit 0)) (nat_lit 0)) :: (.ref (nat_lit 261)) :: (.int (.ofNat (nat_lit 109)) (nat_lit 0)) :: (.int (.ofNat (nat_lit 0)) (nat_lit 0)) :: (.ref (nat_lit 268)) :: (.int (.ofNat (nat_lit 138)) (nat_lit 0)) :: (.int (.ofNat (nat_lit 0)) (nat_lit 0)) :: (.ref (nat_lit 290)) :: (.int (.ofNat (nat_lit 141)) (nat_lit 0)) :: (.int (.ofNat (nat_lit 0)) (nat_lit 0)) :: (.ref (nat_lit 297)) :: (.int (.ofNat (nat_lit 150)) (nat_lit 0)) :: (.int (.ofNat (nat_lit 0)) (nat_lit 0)) :: (.ref (nat_lit 304)) :: (.int (.ofNat (nat_lit 153)) (nat_lit 0)) :: (.int (.ofNat (nat_lit 0)) (nat_lit 0)) :: (.ref (nat_lit 311)) :: (.int (.ofNat (nat_lit 155)) (nat_lit 0)) :: (.int (.ofNat (nat_lit 0)) (nat_lit 0)) :: (.ref (nat_lit 318)) :: (.int (.ofNat (nat_lit 164)) (nat_lit 0)) :: (.int (.ofNat (nat_lit 0)) (nat_lit 0)) :: (.ref (nat_lit 323)) :: (.int (.ofNat (nat_lit 174)) (nat_lit 0)) :: (.int (.ofNat (nat_lit 0)) (nat_lit 0)) :: (.ref (nat_lit 330)) :: (.int (.ofNat (nat_lit 185)) (nat_lit 0)) :: (.int (.ofNat (nat_lit 0)) (nat_lit 0)) :: (.ref (nat_lit 335)) :: []))), #[]⟩) (c2 P (c3 P (c4 P (v138_7 P) (c5 P (c6 P (c7 P (c8 P (c9 P []))))))))
noncomputable def l10 (P : Params) : List Obj := c1 P (v2_2 P) (⟨(.type "dict"), none, (.dict #[⟨(PyData.keyHash P (.ofString "__name__")), (.str (.ofString "__name__") (nat_lit 165)), (.str (.ofString "law_sj0191_01") (nat_lit 678))⟩, ⟨(PyData.keyHash P (.ofString "__doc__")), (.str (.ofString "__doc__") (nat_lit 166)), .none⟩, ⟨(PyData.keyHash P (.ofString "__package__")), (.str (.ofString "__package__") (nat_lit 167)), .none⟩, ⟨(PyData.keyHash P (.ofString "__loader__")), (.str (.ofString "__loader__") (nat_lit 168)), (.builtin "__main__.__loader__#opaque")⟩, ⟨(PyData.keyHash P (.ofString "__spec__")), (.str (.ofString "__spec__") (nat_lit 169)), .none⟩, ⟨(PyData.keyHash P (.ofString "__annotations__")), (.str (.ofString "__annotations__") (nat_lit 170)), (.ref (nat_lit 6))⟩, ⟨(PyData.keyHash P (.ofString "__builtins__")), (.str (.ofString "__builtins__") (nat_lit 171)), (.ref (nat_lit 4))⟩, ⟨(PyData.keyHash P (.ofString "__file__")), (.str (.ofString "__file__") (nat_lit 173)), (.str (.ofString "/claim/cut.py") (nat_lit 172))⟩, ⟨(PyData.keyHash P (.ofString "__cached__")), (.str (.ofString "__cached__") (nat_lit 174)), .none⟩, ⟨(PyData.keyHash P (.ofString "SnobolError")), (.str (.ofString "SnobolError") (nat_lit 222)), (.ref (nat_lit 34))⟩, ⟨(PyData.keyHash P (.ofString "Pattern")), (.str (.ofString "Pattern") (nat_lit 251)), (.ref (nat_lit 54))⟩, ⟨(PyData.keyHash P (.ofString "Delayed")), (.str (.ofString "Delayed") (nat_lit 280)), (.ref (nat_lit 75))⟩, ⟨(PyData.keyHash P (.ofString "Code")), (.str (.ofString "Code") (nat_lit 309)), (.ref (nat_lit 96))⟩, ⟨(PyData.keyHash P (.ofString "NameRef")), (.str (.ofString "NameRef") (nat_lit 342)), (.ref (nat_lit 117))⟩, ⟨(PyData.keyHash P (.ofString "Holder")), (.str (.ofString "Holder") (nat_lit 374)), (.ref (nat_lit 138))⟩, ⟨(PyData.keyHash P (.ofString "kind_of")), (.str (.ofString "kind_of") (nat_lit 381)), (.ref (nat_lit 149))⟩, ⟨(PyData.keyHash P (.ofString "text_of_whole")), (.str (.ofString "text_of_whole") (nat_lit 390)), (.ref (nat_lit 156))⟩, ⟨(PyData.keyHash P (.ofString "to_text")), (.str (.ofString "to_text") (nat_lit 397)), (.ref (nat_lit 163))⟩, ⟨(PyData.keyHash P (.ofString "need_text")), (.str (.ofString "need_text") (nat_lit 405)), (.ref (nat_lit 170))⟩, ⟨(PyData.keyHash P (.ofString "Array")), (.str (.ofString "Array") (nat_lit 437)), (.ref (nat_lit 187))⟩, ⟨(PyData.keyHash P (.ofString "Table")), (.str (.ofString "Table") (nat_lit 464)), (.ref (nat_lit 206))⟩, ⟨(PyData.keyHash P (.ofString "Data")), (.str (.ofString "Data") (nat_lit 493)), (.ref (nat_lit 225))⟩, ⟨(PyData.keyHash P (.ofString "size_of_bounds")), (.str (.ofString "size_of_bounds") (nat_lit 503)), (.ref (nat_lit 234))⟩, ⟨(PyData.keyHash P (.ofString "field_ref")), (.str (.ofString "field_ref") (nat_lit 511)), (.ref (nat_lit 241))⟩, ⟨(PyData.keyHash P (.ofString "slot_get")), (.str (.ofString "slot_get") (nat_lit 518)), (.ref (nat_lit 248))⟩, ⟨(PyData.keyHash P (.ofString "slot_set")), (.str (.ofString "slot_set") (nat_lit 526)), (.ref (nat_lit 255))⟩, ⟨(PyData.keyHash P (.ofString "data_made")), (.str (.ofString "data_made") (nat_lit 536)), (.ref (nat_lit 262))⟩, ⟨(PyData.keyHash P (.ofString "World")), (.str (.ofString "World") (nat_lit 599)), (.ref (nat_lit 280))⟩, ⟨(PyData.keyHash P (.ofString "next_number")), (.str (.ofString "next_number") (nat_lit 606)), (.ref (nat_lit 291))⟩, ⟨(PyData.keyHash P (.ofString "set_var")), (.str (.ofString "set_var") (nat_lit 615)), (.ref (nat_lit 298))⟩, ⟨(PyData.keyHash P (.ofString "FREE")), (.str (.ofString "FREE") (nat_lit 619)), (.int (.ofNat (nat_lit 0)) (nat_lit 618))⟩, ⟨(PyData.keyHash P (.ofString "REACHED")), (.str (.ofString "REACHED") (nat_lit 621)), (.int (.ofNat (nat_lit 1)) (nat_lit 620))⟩, ⟨(PyData.keyHash P (.ofString "held")), (.str (.ofString "held") (nat_lit 629)), (.ref (nat_lit 305))⟩, ⟨(PyData.keyHash P (.ofString "made_data")), (.str (.ofString "made_data") (nat_lit 639)), (.ref (nat_lit 312))⟩, ⟨(PyData.keyHash P (.ofString "things_in_node")), (.str (.ofString "things_in_node") (nat_lit 649)), (.ref (nat_lit 319))⟩, ⟨(PyData.keyHash P (.ofString "things_in")), (.str (.ofString "things_in") (nat_lit 655)), (.ref (nat_lit 324))⟩, ⟨(PyData.keyHash P (.ofString "reach")), (.str (.ofString "reach") (nat_lit 665)), (.ref (nat_lit 331))⟩, ⟨(PyData.keyHash P (.ofString "world_roots")), (.str (.ofString "world_roots") (nat_lit 671)), (.ref (nat_lit 336))⟩, ⟨(PyData.keyHash P (.ofString "collect")), (.str (.ofString "collect") (nat_lit 677)), (.ref (nat_lit 341))⟩, ⟨(PyData.keyHash P (.ofString "_law_get")), (.str (.ofString "_law_get") (nat_lit 687)), (.ref (nat_lit 348))⟩, ⟨(PyData.keyHash P (.ofString "_law_put")), (.str (.ofString "_law_put") (nat_lit 696)), (.ref (nat_lit 355))⟩, ⟨(PyData.keyHash P (.ofString "_law_keys")), (.str (.ofString "_law_keys") (nat_lit 703)), (.ref (nat_lit 362))⟩, ⟨(PyData.keyHash P (.ofString "_law_links")), (.str (.ofString "_law_links") (nat_lit 709)), (.ref (nat_lit 367))⟩, ⟨(PyData.keyHash P (.ofString "_law_turn")), (.str (.ofString "_law_turn") (nat_lit 721)), (.ref (nat_lit 374))⟩, ⟨(PyData.keyHash P (.ofString "_law_grown")), (.str (.ofString "_law_grown") (nat_lit 735)), (.ref (nat_lit 381))⟩, ⟨(PyData.keyHash P (.ofString "_law_place")), (.str (.ofString "_law_place") (nat_lit 749)), (.ref (nat_lit 388))⟩, ⟨(PyData.keyHash P (.ofString "law")), (.str (.ofString "law") (nat_lit 755)), (.ref (nat_lit 393))⟩] (nat_lit 47)), #[]⟩) (⟨.none, none, (.fields (List.toArray ((.int (.ofNat (nat_lit 2)) (nat_lit 0)) :: (.int (.ofNat (nat_lit 0)) (nat_lit 0)) :: (.ref (nat_lit 21)) :: (.int (.ofNat (nat_lit 8)) (nat_lit 0)) :: (.int (.ofNat (nat_lit 0)) (nat_lit 0)) :: (.ref (nat_lit 43)) :: (.int (.ofNat (nat_lit 12)) (nat_lit 0)) :: (.int (.ofNat (nat_lit 0)) (nat_lit 0)) :: (.ref (nat_lit 64)) :: (.int (.ofNat (nat_lit 16)) (nat_lit 0)) :: (.int (.ofNat (nat_lit 0)) (nat_lit 0)) :: (.ref (nat_lit 85)) :: (.int (.ofNat (nat_lit 20)) (nat_lit 0)) :: (.int (.ofNat (nat_lit 0)) (nat_lit 0)) :: (.ref (nat_lit 106)) :: (.int (.ofNat (nat_lit 26)) (nat_lit 0)) :: (.int (.ofNat (nat_lit 0)) (nat_lit 0)) :: (.ref (nat_lit 127)) :: (.int (.ofNat (nat_lit 32)) (nat_lit 0)) :: (.int (.ofNat (nat_lit 0)) (nat_lit 0)) :: (.ref (nat_lit 148)) :: (.int (.ofNat (nat_lit 46)) (nat_lit 0)) :: (.int (.ofNat (nat_lit 0)) (nat_lit 0)) :: (.ref (nat_lit 155)) :: (.int (.ofNat (nat_lit 52)) (nat_lit 0)) :: (.int (.ofNat (nat_lit 0)) (nat_lit 0)) :: (.ref (nat_lit 162)) :: (.int (.ofNat (nat_lit 56)) (nat_lit 0)) :: (.int (.ofNat (nat_lit 0)) (nat_lit 0)) :: (.ref (nat_lit 169)) :: (.int (.ofNat (nat_lit 62)) (nat_lit 0)) :: (.int (.ofNat (nat_lit 0)) (nat_lit 0)) :: (.ref (nat_lit 176)) :: (.int (.ofNat (nat_lit 69)) (nat_lit 0)) :: (.int (.ofNat (nat_lit 0)) (nat_lit 0)) :: (.ref (nat_lit 195)) :: (.int (.ofNat (nat_lit 76)) (nat_lit 0)) :: (.int (.ofNat (nat_lit 0)) (nat_lit 0)) :: (.ref (nat_lit 214)) :: (.int (.ofNat (nat_lit 82)) (nat_lit 0)) :: (.int (.ofNat (nat_lit 0)) (nat_lit 0)) :: (.ref (nat_lit 233)) :: (.int (.ofNat (nat_lit 87)) (nat_lit 0)) :: (.int (.ofNat (nat_lit 0)) (nat_lit 0)) :: (.ref (nat_lit 240)) :: (.int (.ofNat (nat_lit 93)) (nat_lit 0)) :: (.int (.ofNat (nat_lit 0)) (nat_lit 0)) :: (.ref (nat_lit 247)) :: (.int (.ofNat (nat_lit 99)) (nat_lit 0)) :: (.int (.ofNat (nat_lit 0)) (nat_lit 0)) :: (.ref (nat_lit 254)) :: (.int (.ofNat (nat_lit 106)) (nat_lit 0)) :: (.int (.ofNat (nat_lit 0)) (nat_lit 0)) :: (.ref (nat_lit 261)) :: (.int (.ofNat (nat_lit 109)) (nat_lit 0)) :: (.int (.ofNat (nat_lit 0)) (nat_lit 0)) :: (.ref (nat_lit 268)) :: (.int (.ofNat (nat_lit 138)) (nat_lit 0)) :: (.int (.ofNat (nat_lit 0)) (nat_lit 0)) :: (.ref (nat_lit 290)) :: (.int (.ofNat (nat_lit 141)) (nat_lit 0)) :: (.int (.ofNat (nat_lit 0)) (nat_lit 0)) :: (.ref (nat_lit 297)) :: (.int (.ofNat (nat_lit 150)) (nat_lit 0)) :: (.int (.ofNat (nat_lit 0)) (nat_lit 0)) :: (.ref (nat_lit 304)) :: (.int (.ofNat (nat_lit 153)) (nat_lit 0)) :: (.int (.ofNat (nat_lit 0)) (nat_lit 0)) :: (.ref (nat_lit 311)) :: (.int (.ofNat (nat_lit 155)) (nat_lit 0)) :: (.int (.ofNat (nat_lit 0)) (nat_lit 0)) :: (.ref (nat_lit 318)) :: (.int (.ofNat (nat_lit 164)) (nat_lit 0)) :: (.int (.ofNat (nat_lit 0)) (nat_lit 0)) :: (.ref (nat_lit 323)) :: (.int (.ofNat (nat_lit 174)) (nat_lit 0)) :: (.int (.ofNat (nat_lit 0)) (nat_lit 0)) :: (.ref (nat_lit 330)) :: (.int (.ofNat (nat_lit 185)) (nat_lit 0)) :: (.int (.ofNat (nat_lit 0)) (nat_lit 0)) :: (.ref (nat_lit 335)) :: (.int (.ofNat (nat_lit 187)) (nat_lit 0)) :: (.int (.ofNat (nat_lit 0)) (nat_lit 0)) :: (.ref (nat_lit 340)) :: (.int (.ofNat (nat_lit 195)) (nat_lit 0)) :: (.int (.ofNat (nat_lit 0)) (nat_lit 0)) :: (.ref (nat_lit 347)) :: (.int (.ofNat (nat_lit 197)) (nat_lit 0)) :: (.int (.ofNat (nat_lit 0)) (nat_lit 0)) :: (.ref (nat_lit 354)) :: (.int (.ofNat (nat_lit 199)) (nat_lit 0)) :: (.int (.ofNat (nat_lit 0)) (nat_lit 0)) :: (.ref (nat_lit 361)) :: (.int (.ofNat (nat_lit 203)) (nat_lit 0)) :: (.int (.ofNat (nat_lit 0)) (nat_lit 0)) :: (.ref (nat_lit 366)) :: (.int (.ofNat (nat_lit 206)) (nat_lit 0)) :: (.int (.ofNat (nat_lit 0)) (nat_lit 0)) :: (.ref (nat_lit 373)) :: (.int (.ofNat (nat_lit 215)) (nat_lit 0)) :: (.int (.ofNat (nat_lit 0)) (nat_lit 0)) :: (.ref (nat_lit 380)) :: (.int (.ofNat (nat_lit 226)) (nat_lit 0)) :: (.int (.ofNat (nat_lit 0)) (nat_lit 0)) :: (.ref (nat_lit 387)) :: (.int (.ofNat (nat_lit 235)) (nat_lit 0)) :: (.int (.ofNat (nat_lit 0)) (nat_lit 0)) :: (.ref (nat_lit 392)) :: []))), #[]⟩) (c2 P (c3 P (c4 P (v138_7 P) (c5 P (c6 P (c7 P (c8 P (c9 P (c10 P [])))))))))

noncomputable def eE : Env := { scope := pw.main.scope, locals := mainNs, globals := mainNs, cells := [], code := .ref 13, frame := some 14 }
noncomputable def kE : Code := .body bE eE
abbrev p0 : Pos := ⟨0, 0, 0, 0⟩
section
variable {p : Program} {w : World} {m n N i j k : Nat} {ann : Option Value} {env : Env} {r s s' : Shared} {l : List Stmt} {c : Code} {pos p' pq : Pos}
theorem pa (h : segRun treeTable p w m ann 1 n s (piecesOf ((l.drop i).take j) env c pos [topFrame pq]) = some (.next, s', c, p')) (e : i + j = k)
    (t : topRun treeTable p w m ann N s' (restOf (l.drop k) env c p' [topFrame pq]) = some r) : topRun treeTable p w m ann (n + N) s (restOf (l.drop i) env c pos [topFrame pq]) = some r := by
  subst e
  have := piece_app h t
  rwa [← List.drop_drop, List.take_append_drop] at this
theorem pz (h : segRun treeTable p w m ann 1 n s (piecesOf l env c pos [topFrame pq]) = some (.next, s', c, p'))
    (t : topRun treeTable p w m ann N s' ⟨doneF .next, c, p', [topFrame pq]⟩ = some r) : topRun treeTable p w m ann (n + N) s (restOf l env c pos [topFrame pq]) = some r := by
  have := piece_app (rest := []) h (piece_nil t)
  rwa [List.append_nil] at this
theorem pb (h : segRun treeTable p w m ann 1 n s (blockOf l env c pos [topFrame pq]) = some (.next, s', c, p'))
    (t : topRun treeTable p w m ann N s' (restOf (l.drop 0) env c p' [topFrame pq]) = some r) : topRun treeTable p w m ann (n + N) s ⟨denote treeTable (.body l env), c, pos, [topFrame pq]⟩ = some r := piece_block h t
end
theorem g0 (w : World) (os : OsState) : topGo treeTable pw w 11 (some (.ref 6)) 12 ⟨boot_heap w.params, ⟨[]⟩, boot_drawn, boot_toks, os⟩ (topStub pw) = some ((st (l1 w.params) 187 os), ⟨denote treeTable kE, kE, p0, [topFrame p0]⟩) := by
  rw [PySem.W.Fast.te15667345088766844465, PySem.W.Fast.te11892475500146522536, PySem.W.Fast.te14364793385576792824]; kernel_rfl
theorem g1 (w : World) (os : OsState) : segRun treeTable pw w 11 (some (.ref 6)) 1 1 (st (l1 w.params) 187 os) (blockOf bE eE kE p0 [topFrame p0]) = some (.next, (st (l1 w.params) 187 os), kE, p0) := by
  rw [PySem.W.Fast.te14374325043358763698, PySem.W.Fast.te14364793385576792824]; kernel_rfl
theorem g2 (w : World) (os : OsState) : segRun treeTable pw w 11 (some (.ref 6)) 1 480 (st (l1 w.params) 187 os) (piecesOf ((bE.drop 0).take 3) eE kE ⟨0, 0, 0, 0⟩ [topFrame p0]) = some (.next, (st (l2 w.params) 252 os), kE, ⟨8, 0, 11, 24⟩) := by
  rw [PySem.W.Fast.te14374325043358763698, PySem.W.Fast.te14364793385576792824]; kernel_rfl
theorem g3 (w : World) (os : OsState) : segRun treeTable pw w 11 (some (.ref 6)) 1 445 (st (l2 w.params) 252 os) (piecesOf ((bE.drop 3).take 2) eE kE ⟨8, 0, 11, 24⟩ [topFrame p0]) = some (.next, (st (l3 w.params) 310 os), kE, ⟨16, 0, 19, 26⟩) := by
  rw [PySem.W.Fast.te14374325043358763698, PySem.W.Fast.te14364793385576792824]; kernel_rfl
theorem g4 (w : World) (os : OsState) : segRun treeTable pw w 11 (some (.ref 6)) 1 452 (st (l3 w.params) 310 os) (piecesOf ((bE.drop 5).take 2) eE kE ⟨16, 0, 19, 26⟩ [topFrame p0]) = some (.next, (st (l4 w.params) 375 os), kE, ⟨26, 0, 31, 21⟩) := by
  rw [PySem.W.Fast.te14374325043358763698, PySem.W.Fast.te14364793385576792824]; kernel_rfl
theorem g5 (w : World) (os : OsState) : segRun treeTable pw w 11 (some (.ref 6)) 1 379 (st (l4 w.params) 375 os) (piecesOf ((bE.drop 7).take 6) eE kE ⟨26, 0, 31, 21⟩ [topFrame p0]) = some (.next, (st (l5 w.params) 438 os), kE, ⟨62, 0, 68, 53⟩) := by
  rw [PySem.W.Fast.te14374325043358763698, PySem.W.Fast.te14364793385576792824]; kernel_rfl
theorem g6 (w : World) (os : OsState) : segRun treeTable pw w 11 (some (.ref 6)) 1 248 (st (l5 w.params) 438 os) (piecesOf ((bE.drop 13).take 1) eE kE ⟨62, 0, 68, 53⟩ [topFrame p0]) = some (.next, (st (l6 w.params) 465 os), kE, ⟨69, 0, 75, 22⟩) := by
  rw [PySem.W.Fast.te14374325043358763698, PySem.W.Fast.te14364793385576792824]; kernel_rfl
theorem g7 (w : World) (os : OsState) : segRun treeTable pw w 11 (some (.ref 6)) 1 341 (st (l6 w.params) 465 os) (piecesOf ((bE.drop 14).take 4) eE kE ⟨69, 0, 75, 22⟩ [topFrame p0]) = some (.next, (st (l7 w.params) 519 os), kE, ⟨93, 0, 98, 36⟩) := by
  rw [PySem.W.Fast.te14374325043358763698, PySem.W.Fast.te14364793385576792824]; kernel_rfl
theorem g8 (w : World) (os : OsState) : segRun treeTable pw w 11 (some (.ref 6)) 1 327 (st (l7 w.params) 519 os) (piecesOf ((bE.drop 18).take 4) eE kE ⟨93, 0, 98, 36⟩ [topFrame p0]) = some (.next, (st (l8 w.params) 600 os), kE, ⟨109, 0, 137, 28⟩) := by
  rw [PySem.W.Fast.te14374325043358763698, PySem.W.Fast.te14364793385576792824]; kernel_rfl
theorem g9 (w : World) (os : OsState) : segRun treeTable pw w 11 (some (.ref 6)) 1 266 (st (l8 w.params) 600 os) (piecesOf ((bE.drop 22).take 11) eE kE ⟨109, 0, 137, 28⟩ [topFrame p0]) = some (.next, (st (l9 w.params) 672 os), kE, ⟨185, 0, 186, 62⟩) := by
  rw [PySem.W.Fast.te14374325043358763698, PySem.W.Fast.te14364793385576792824]; kernel_rfl
theorem g10 (w : World) (os : OsState) : segRun treeTable pw w 11 (some (.ref 6)) 1 284 (st (l9 w.params) 672 os) (piecesOf (bE.drop 33) eE kE ⟨185, 0, 186, 62⟩ [topFrame p0]) = some (.next, (st (l10 w.params) 756 os), kE, ⟨235, 0, 271, 83⟩) := by
  rw [PySem.W.Fast.te14374325043358763698, PySem.W.Fast.te14364793385576792824]; kernel_rfl
theorem g11 (w : World) (os : OsState) : topRun treeTable pw w 11 (some (.ref 6)) 2 (st (l10 w.params) 756 os) ⟨doneF .next, kE, ⟨235, 0, 271, 83⟩, [topFrame p0]⟩ = some (st (l10 w.params) 756 os) := by
  rw [PySem.W.Fast.te14082659384304107361, PySem.W.Fast.te14364793385576792824]; kernel_rfl
theorem runs (w : World) (os : OsState) : topRun treeTable pw w 11 (some (.ref 6)) (12 + (1 + (480 + (445 + (452 + (379 + (248 + (341 + (327 + (266 + (284 + 2))))))))))) ⟨boot_heap w.params, ⟨[]⟩, boot_drawn, boot_toks, os⟩ (topStub pw) = some (st (l10 w.params) 756 os) :=
  go_top (g0 w os) (pb (g1 w os) (pa (g2 w os) rfl (pa (g3 w os) rfl (pa (g4 w os) rfl (pa (g5 w os) rfl (pa (g6 w os) rfl (pa (g7 w os) rfl (pa (g8 w os) rfl (pa (g9 w os) rfl (pz (g10 w os) (g11 w os)))))))))))
theorem seen1 (w : World) (os : OsState) : (staticsOk (importedModules pw.main.body) (boot_heap w.params) (st (l10 w.params) 756 os).heap && namesBound pw (st (l10 w.params) 756 os).heap && gensDone (st (l10 w.params) 756 os) && laidKept (boot_heap w.params) (st (l10 w.params) 756 os).heap) = true := by kernel_rfl
noncomputable abbrev Xs (s : Shared) : Bool := xlAt q [] s && recOk (RowW.records PySem.Challenge.rw_sj0191_01.row.toRowW) s
theorem seen2 (w : World) (os : OsState) : openSeen q names (importedModules pw.main.body) Xs true (st (l10 w.params) 756 os) = openGood q names := by
  rw [PySem.W.Fast.te4187177175401517315]; kernel_rfl
theorem left {α : Type} {Yf : Shared → α} {Ya : World → α} (y : ∀ w os, Yf (st (l10 w.params) 756 os) = Ya w) : LeftO pw q names Xs Yf Ya 6000 :=
  LeftO.of_pieces (H₁ := fun P => (st (l10 P) 756 default).heap) (gs₁ := ⟨[]⟩) (d₁ := ⟨0, 0, 0, 0⟩) (k₁ := 756) (boot_open opens (by rfl) fences) bsize runs (by rfl) fun w => funext fun os => Prod.ext (seen1 w os) (Prod.ext (seen2 w os) (y w os))
theorem hopen (H : Hook) {d : DefRec} {kwd : List (Str × Expr)} (y : ∀ w os, H.obs (st (l10 w.params) 756 os) = H.val w) (hdef : defOf q PySem.Challenge.rw_sj0191_01.row.name = some (d, kwd)) (hp : PySem.Challenge.rw_sj0191_01.row.prog.theDef PySem.Challenge.rw_sj0191_01.row.name = some (d.params, d.body, d.scope))
    (hk : kwWritten? d.params.kwonlyargs d.params.kw_defaults = some kwd) (k1 : PySem.Challenge.rw_sj0191_01.row.wellSaid = true) (hw : PySem.Challenge.rw_sj0191_01.row.promised) (hc : WalkO q names (XL q []) H.says PySem.Challenge.rw_sj0191_01.row.toRowW d kwd fun f vs => call f vs) : PySem.Challenge.rw_sj0191_01.row.Holds :=
  holds_open (left y) H.of H.keeps (fun s e => xl_of s (Bool.and_eq_true_iff.mp e).1) XL.keeps hdef hp hk (fun s e => recFacts_of (Bool.and_eq_true_iff.mp e).2) (by rfl) k1 (by decide +kernel) ⟨rfl, rfl, rfl, rfl, rfl, by decide +kernel⟩ hw hc

local macro_rules | `(tactic| o_head $H:term) => `(tactic| refine hopen $H (fun w os => by kernel_rfl) (by rfl) (by rfl) (by rfl) (by assumption) ?hw ?hc)

open_top hd for PySem.Challenge.rw_sj0191_01

set_option maxRecDepth 100000
set_option maxHeartbeats 8000000

/-! the state of the things -/
noncomputable abbrev ent (P : Params) (x : Str) (t : Tok) (v : Value) : DictEntry := ⟨PyData.keyHash P x, .str x t, v⟩
noncomputable abbrev Led := List (Addr × Obj)
structure Nd where
  x : Addr
  dx : Addr
  fx : Addr
  vx : Addr
  num : Int
  tw : Nat
  tn : Nat
  tm : Nat
  tf : Nat
  tv : Nat
  wt : Nat
  nt : Nat
  l1 : Nat
  l2 : Nat
  l3 : Nat
  nf : Nat
  nv : Nat
structure Mu where
  mkv : Value
  l : Value
  k : Value
  r : Value
inductive Fd where
  | L | K | R
noncomputable def Fd.s : Fd → Str
  | .L => "LEFT"
  | .K => "KEY"
  | .R => "RIGHT"
noncomputable def Fd.i : Fd → Nat
  | .L => 0
  | .K => 1
  | .R => 2
noncomputable def Mu.get (u : Mu) : Fd → Value
  | .L => u.l
  | .K => u.k
  | .R => u.r
noncomputable def Mu.set (u : Mu) (f : Fd) (v : Value) : Mu := match f with
  | .L => { u with l := v }
  | .K => { u with k := v }
  | .R => { u with r := v }
noncomputable abbrev Mu.vals (u : Mu) : List Value := [u.l, u.k, u.r]
theorem Mu.vals_get (u : Mu) (f : Fd) : u.vals[f.i]? = some (u.get f) := by cases f <;> rfl
theorem Mu.vals_set (u : Mu) (f : Fd) (v : Value) : (u.set f v).vals = u.vals.set f.i v := by cases f <;> rfl
theorem Fd.lt (f : Fd) : f.i < 3 := by cases f <;> decide
noncomputable abbrev fsOf (t1 t2 t3 : Nat) : List Value := [.str "LEFT" t1, .str "KEY" t2, .str "RIGHT" t3]
noncomputable abbrev ndDict (P : Params) (n : Nd) (mk : Value) : Obj :=
  dictOf [ent P "word" n.tw (.str "NODE" n.wt), ent P "number" n.tn (.int n.num n.nt), ent P "mark" n.tm mk, ent P "fields" n.tf (.ref n.fx), ent P "values" n.tv (.ref n.vx)] 5
noncomputable def ndLed (P : Params) (n : Nd) (u : Mu) : Led :=
  [(n.x, instObj 225 n.dx), (n.dx, ndDict P n u.mkv), (n.fx, listOf (fsOf n.l1 n.l2 n.l3).toArray n.nf), (n.vx, listOf u.vals.toArray n.nv)]
noncomputable def nl (P : Params) : Nat → List Nd → (Nat → Mu) → Led
  | _, [], _ => []
  | i, n :: r, μ => ndLed P n (μ i) ++ nl P (i + 1) r μ
noncomputable def addrs : List Nd → List Addr
  | [] => []
  | n :: r => [n.x, n.dx, n.fx, n.vx] ++ addrs r
noncomputable def Off (g : List Nd) (a : Addr) : Prop := a ∉ addrs g
noncomputable def Sep (g : List Nd) : Prop := (addrs g).Nodup
noncomputable def setMu (μ : Nat → Mu) (i : Nat) (u : Mu) : Nat → Mu := fun j => if j = i then u else μ j
theorem setMu_same (μ : Nat → Mu) (i : Nat) (u : Mu) : setMu μ i u i = u := if_pos rfl
theorem setMu_ne (μ : Nat → Mu) {i j : Nat} (u : Mu) (h : j ≠ i) : setMu μ i u j = μ j := if_neg h
noncomputable abbrev put (μ : Nat → Mu) (i : Nat) (f : Fd) (v : Value) : Nat → Mu := setMu μ i ((μ i).set f v)
noncomputable abbrev mark (μ : Nat → Mu) (i : Nat) (v : Value) : Nat → Mu := setMu μ i { μ i with mkv := v }

theorem mem_nl {P : Params} {μ : Nat → Mu} {n : Nd} {p : Addr × Obj} : ∀ {g : List Nd} {i j : Nat}, g[j]? = some n → p ∈ ndLed P n (μ (i + j)) → p ∈ nl P i g μ
  | m :: r, i, 0, e, h => by
    cases Option.some.inj e
    exact List.mem_append.mpr (.inl h)
  | m :: r, i, j + 1, e, h => by
    refine List.mem_append.mpr (.inr (mem_nl (j := j) (by simpa using e) ?_))
    rw [show i + 1 + j = i + (j + 1) by omega]; exact h
theorem nl_addr {P : Params} {μ : Nat → Mu} : ∀ {g : List Nd} {i : Nat}, (nl P i g μ).map (·.1) = addrs g
  | [], _ => rfl
  | n :: r, i => by
    show List.map _ (ndLed P n (μ i) ++ nl P (i + 1) r μ) = [n.x, n.dx, n.fx, n.vx] ++ addrs r
    rw [List.map_append, nl_addr]; rfl
theorem addr_mem {n : Nd} : ∀ {g : List Nd} {j : Nat}, g[j]? = some n → n.x ∈ addrs g ∧ n.dx ∈ addrs g ∧ n.fx ∈ addrs g ∧ n.vx ∈ addrs g
  | m :: r, 0, e => by cases Option.some.inj e; simp [addrs]
  | m :: r, j + 1, e => by
    obtain ⟨a, b, c, d⟩ := addr_mem (g := r) (j := j) (by simpa using e)
    simp [addrs, a, b, c, d]
theorem off_of_lt {P : Params} {μ : Nat → Mu} {g : List Nd} {i : Nat} {a : Addr} (h : AllLt a (nl P i g μ)) : Off g a := fun hm => by
  rw [← nl_addr (P := P) (μ := μ) (i := i)] at hm
  obtain ⟨p, hp, e⟩ := List.mem_map.mp hm
  exact Nat.ne_of_lt (ktn_ltOf h p hp) e

/-- an entry turned -/
noncomputable def updL (a : Addr) (o : Obj) (l : Led) : Led := l.map fun p => if p.1 = a then (a, o) else p
inductive Chg (A B : Led) (off : Addr → Prop) : Led → Led → Prop
  | here : Chg A B off A B
  | cons {p : Addr × Obj} {l l' : Led} : off p.1 → Chg A B off l l' → Chg A B off (p :: l) (p :: l')
theorem Chg.sub {A B l l' : Led} {off : Addr → Prop} (h : Chg A B off l l') : ∀ p ∈ A, p ∈ l := by
  induction h with
  | here => exact fun _ h => h
  | cons _ _ ih => exact fun p hp => .tail _ (ih p hp)
theorem updL_mem {a : Addr} {o : Obj} {l : Led} {p : Addr × Obj} (h : p ∈ l) (hne : p.1 ≠ a) : p ∈ updL a o l :=
  List.mem_map.mpr ⟨p, h, if_neg hne⟩
theorem Chg.upd {A B l l' : Led} {off : Addr → Prop} {a : Addr} {o : Obj} (h : Chg A B off l l') (hA : ∀ p ∈ B, p ∈ updL a o A) (hoff : ∀ b, off b → b ≠ a) : ∀ p ∈ l', p ∈ updL a o l := by
  induction h with
  | here => exact hA
  | @cons q l l' ho _ ih =>
    intro p hp
    rcases List.mem_cons.mp hp with rfl | hp
    · exact updL_mem (.head _) (hoff _ ho)
    · obtain ⟨r, hr, e⟩ := List.mem_map.mp (ih p hp)
      exact List.mem_map.mpr ⟨r, .tail _ hr, e⟩

theorem nl_same {P : Params} {μ μ' : Nat → Mu} : ∀ {g : List Nd} {i : Nat}, (∀ j, i ≤ j → j < i + g.length → μ j = μ' j) → nl P i g μ = nl P i g μ'
  | [], _, _ => rfl
  | n :: r, i, h => by
    unfold nl
    rw [h i (Nat.le_refl _) (by simp), nl_same (g := r) (i := i + 1) fun j h1 h2 => h j (by omega) (by simp only [List.length_cons]; omega)]
theorem upd_off {a : Addr} {o : Obj} : ∀ {l : Led}, a ∉ l.map (·.1) → updL a o l = l
  | [], _ => rfl
  | p :: l, h => by
    simp only [List.map_cons, List.mem_cons, not_or] at h
    show (if p.1 = a then (a, o) else p) :: updL a o l = _
    rw [if_neg (Ne.symm h.1), upd_off h.2]

theorem vx_upd {P : Params} {μ : Nat → Mu} {n : Nd} {u : Mu} {j : Nat} : ∀ {g : List Nd} {i : Nat}, Sep g → g[j]? = some n → u.mkv = (μ (i + j)).mkv →
    nl P i g (setMu μ (i + j) u) = updL n.vx (listOf u.vals.toArray n.nv) (nl P i g μ) := by
  induction j with
  | zero =>
    intro g i hs e hm
    cases g with
    | nil => cases e
    | cons m r =>
      have e1 : m = n := Option.some.inj e
      subst e1
      have hs' : ([m.x, m.dx, m.fx, m.vx] ++ addrs r).Nodup := hs
      obtain ⟨h1, h2, h3⟩ := List.nodup_append.mp hs'
      have hv : m.vx ∉ addrs r := fun hm => h3 m.vx (by simp) m.vx hm rfl
      simp only [List.nodup_cons, List.mem_cons, List.not_mem_nil, or_false, not_or] at h1
      unfold nl
      show ndLed P m (setMu μ i u i) ++ nl P (i + 1) r (setMu μ i u) = updL m.vx (listOf u.vals.toArray m.nv) (ndLed P m (μ i) ++ nl P (i + 1) r μ)
      rw [show updL m.vx (listOf u.vals.toArray m.nv) (ndLed P m (μ i) ++ nl P (i + 1) r μ) = updL m.vx (listOf u.vals.toArray m.nv) (ndLed P m (μ i)) ++ updL m.vx (listOf u.vals.toArray m.nv) (nl P (i + 1) r μ) from List.map_append ..]
      rw [upd_off (l := nl P (i + 1) r μ) (by rw [nl_addr]; exact hv), nl_same (g := r) (μ := setMu μ i u) (μ' := μ) fun j h1 h2 => setMu_ne μ u (by omega), setMu_same]
      congr 1
      unfold ndLed updL
      simp only [List.map_cons, List.map_nil, if_neg h1.1.2.2, if_neg h1.2.1.2, if_neg h1.2.2.1, if_true]
      rw [hm]
      rfl
  | succ j ih =>
    intro g i hs e hm
    cases g with
    | nil => cases e
    | cons m r =>
      have hs' : ([m.x, m.dx, m.fx, m.vx] ++ addrs r).Nodup := hs
      obtain ⟨h1, h2, h3⟩ := List.nodup_append.mp hs'
      have e' : r[j]? = some n := by simpa using e
      have hv := (addr_mem e').2.2.2
      have hne : n.vx ∉ (ndLed P m (μ i)).map (·.1) := fun hm => h3 n.vx hm n.vx hv rfl
      have ih' := ih (g := r) (i := i + 1) h2 e' (by rw [show i + 1 + j = i + (j + 1) by omega]; exact hm)
      unfold nl
      rw [show i + 1 + j = i + (j + 1) by omega] at ih'
      rw [setMu_ne μ u (by omega : i ≠ i + (j + 1)), ih', show updL n.vx (listOf u.vals.toArray n.nv) (ndLed P m (μ i) ++ nl P (i + 1) r μ) = updL n.vx (listOf u.vals.toArray n.nv) (ndLed P m (μ i)) ++ updL n.vx (listOf u.vals.toArray n.nv) (nl P (i + 1) r μ) from List.map_append ..,
        upd_off (l := ndLed P m (μ i)) hne]

theorem dx_upd {P : Params} {μ : Nat → Mu} {n : Nd} {u : Mu} {j : Nat} : ∀ {g : List Nd} {i : Nat}, Sep g → g[j]? = some n → u.vals = (μ (i + j)).vals →
    nl P i g (setMu μ (i + j) u) = updL n.dx (ndDict P n u.mkv) (nl P i g μ) := by
  induction j with
  | zero =>
    intro g i hs e hm
    cases g with
    | nil => cases e
    | cons m r =>
      have e1 : m = n := Option.some.inj e
      subst e1
      have hs' : ([m.x, m.dx, m.fx, m.vx] ++ addrs r).Nodup := hs
      obtain ⟨h1, h2, h3⟩ := List.nodup_append.mp hs'
      have hv : m.dx ∉ addrs r := fun hm => h3 m.dx (by simp) m.dx hm rfl
      simp only [List.nodup_cons, List.mem_cons, List.not_mem_nil, or_false, not_or] at h1
      unfold nl
      show ndLed P m (setMu μ i u i) ++ nl P (i + 1) r (setMu μ i u) = updL m.dx (ndDict P m u.mkv) (ndLed P m (μ i) ++ nl P (i + 1) r μ)
      rw [show updL m.dx (ndDict P m u.mkv) (ndLed P m (μ i) ++ nl P (i + 1) r μ) = updL m.dx (ndDict P m u.mkv) (ndLed P m (μ i)) ++ updL m.dx (ndDict P m u.mkv) (nl P (i + 1) r μ) from List.map_append ..]
      rw [upd_off (l := nl P (i + 1) r μ) (by rw [nl_addr]; exact hv), nl_same (g := r) (μ := setMu μ i u) (μ' := μ) fun j h1 h2 => setMu_ne μ u (by omega), setMu_same]
      congr 1
      unfold ndLed updL
      simp only [List.map_cons, List.map_nil, if_neg h1.1.1, if_neg (Ne.symm h1.2.1.1), if_neg (Ne.symm h1.2.1.2), if_true]
      rw [hm]
      rfl
  | succ j ih =>
    intro g i hs e hm
    cases g with
    | nil => cases e
    | cons m r =>
      have hs' : ([m.x, m.dx, m.fx, m.vx] ++ addrs r).Nodup := hs
      obtain ⟨h1, h2, h3⟩ := List.nodup_append.mp hs'
      have e' : r[j]? = some n := by simpa using e
      have hv := (addr_mem e').2.1
      have hne : n.dx ∉ (ndLed P m (μ i)).map (·.1) := fun hm => h3 n.dx hm n.dx hv rfl
      have ih' := ih (g := r) (i := i + 1) h2 e' (by rw [show i + 1 + j = i + (j + 1) by omega]; exact hm)
      unfold nl
      rw [show i + 1 + j = i + (j + 1) by omega] at ih'
      rw [setMu_ne μ u (by omega : i ≠ i + (j + 1)), ih', show updL n.dx (ndDict P n u.mkv) (ndLed P m (μ i) ++ nl P (i + 1) r μ) = updL n.dx (ndDict P n u.mkv) (ndLed P m (μ i)) ++ updL n.dx (ndDict P n u.mkv) (nl P (i + 1) r μ) from List.map_append ..,
        upd_off (l := ndLed P m (μ i)) hne]

/-- the things' part of a ledger, turned at one thing's values, or at its mark -/
theorem chg_put {P : Params} {μ : Nat → Mu} {n : Nd} {g : List Nd} {i : Nat} {f : Fd} {v : Value} {l l' : Led} (hs : Sep g) (e : g[i]? = some n) (C : Chg (nl P 0 g μ) (nl P 0 g (put μ i f v)) (Off g) l l') :
    ∀ p ∈ l', p ∈ updL n.vx (listOf ((μ i).vals.set f.i v).toArray n.nv) l := by
  refine C.upd (fun p hp => ?_) fun b hb hq => hb (hq ▸ (addr_mem e).2.2.2)
  have := vx_upd (P := P) (μ := μ) (u := (μ i).set f v) (i := 0) hs e (by rw [Nat.zero_add]; cases f <;> rfl)
  rw [Nat.zero_add, Mu.vals_set] at this
  rw [← this]; exact hp
theorem chg_mark {P : Params} {μ : Nat → Mu} {n : Nd} {g : List Nd} {i : Nat} {v : Value} {l l' : Led} (hs : Sep g) (e : g[i]? = some n) (C : Chg (nl P 0 g μ) (nl P 0 g (mark μ i v)) (Off g) l l') :
    ∀ p ∈ l', p ∈ updL n.dx (ndDict P n v) l := by
  refine C.upd (fun p hp => ?_) fun b hb hq => hb (hq ▸ (addr_mem e).2.1)
  have := dx_upd (P := P) (μ := μ) (u := { μ i with mkv := v }) (i := 0) hs e (by rw [Nat.zero_add])
  rw [Nat.zero_add] at this
  rw [← this]; exact hp

/-! a call, told -/
noncomputable def Call (w : World) (f : Addr) (args : List Value) (cost : Nat) (news : Led) (post : Value → Led → Prop) : Prop :=
  ∀ (mean : ExcName → Option Value) (mg mb : Str → Option Value) (dp un : Nat) (gd : Option (List Code)) (cn : Str) (cs : Scope) (a : Addr) (ccd : Value) (cl : List (Str × Addr)) (outer : List Env) (A₀ : Around) (base h₀ : Heap) (L : Addr) (m : Str → Option Value) (s : Shared) (Q E : Value → Shared → Prop),
    Below A₀ base outer h₀ → Fr h₀ L s.heap m → (Mine.hd.heap_39 w.params).In h₀ → News h₀ L s.heap news → Top q (looseW q names) mean mg mb h₀ → cs.kind = .function → dp + cost < recursionLimit → un + 8 * cost < cLine →
    (∀ r news' h' tk', post r news' → Fr h₀ L h' m → News h₀ L h' news' → Q r { s with heap := h', toks := tk' }) →
    wpAny (model PySem.Challenge.rw_sj0191_01.row.prog w) (ktrTop dp un gd cn cs L a ccd cl outer) (call (.ref f) args) Q E s
theorem call_use {w : World} {f : Addr} {args : List Value} {cost : Nat} {news : Led} {post : Value → Led → Prop} {mean : ExcName → Option Value} {mg mb : Str → Option Value} {dp un : Nat} {gd : Option (List Code)} {cn : Str} {cs : Scope} {a : Addr} {ccd : Value} {cl : List (Str × Addr)} {outer : List Env} {A₀ : Around} {base h₀ : Heap} {L : Addr} {m : Str → Option Value} {s : Shared} {Q E : Value → Shared → Prop}
    (C : Call w f args cost news post) (B : Below A₀ base outer h₀) (F : Fr h₀ L s.heap m) (X : (Mine.hd.heap_39 w.params).In h₀) (N : News h₀ L s.heap news) (T : Top q (looseW q names) mean mg mb h₀) (hk : cs.kind = .function) (hd : dp + cost < recursionLimit) (hu : un + 8 * cost < cLine)
    (ret : ∀ r news' h' tk', post r news' → Fr h₀ L h' m → News h₀ L h' news' → Q r { s with heap := h', toks := tk' }) :
    wpAny (model PySem.Challenge.rw_sj0191_01.row.prog w) (ktrTop dp un gd cn cs L a ccd cl outer) (call (.ref f) args) Q E s := C mean mg mb dp un gd cn cs a ccd cl outer A₀ base h₀ L m s Q E B F X N T hk hd hu ret

theorem news_sub {h₀ h : Heap} {L : Addr} {l l' : Led} (N : News h₀ L h l) (hs : ∀ p ∈ l', p ∈ l) : News h₀ L h l' := fun r hr => N r (hs r hr)
theorem mem_show {α : Type} {a : α} {l : List α} (h : a ∈ l) : List.Mem a l := h

/-! rules -/
noncomputable abbrev FS : List Str := ["LEFT", "KEY", "RIGHT"]
theorem fs_are (t1 t2 t3 : Nat) : StrsAre (fsOf t1 t2 t3) FS := .cons _ _ (.cons _ _ (.cons _ _ .nil))
theorem fs_any (f : Fd) : (FS.any (· == f.s)) = true := by cases f <;> decide
theorem fs_idx (f : Fd) : FS.idxOf f.s = f.i := by cases f <;> decide
theorem ne_lt_idxOf {k : Str} : ∀ {ns : List Str} {j : Nat}, j < ns.idxOf k → ∀ (h2 : j < ns.length), (ns[j] == k) = false
  | n :: r, 0, h, _ => by
    by_cases e : n = k
    · subst e; simp at h
    · simpa using e
  | n :: r, j + 1, h, h2 => by
    by_cases e : n = k
    · subst e; simp at h
    · have e' : (n == k) = false := by simpa using e
      rw [List.idxOf_cons, e'] at h
      simpa using ne_lt_idxOf (ns := r) (j := j) (by simpa using h) (by simpa using h2)
theorem isStrOf_at (k : Str) : ∀ {vs : List Value} {ys : List Str}, StrsAre vs ys → ∀ (j : Nat) (hj : j < vs.length) (hy : j < ys.length), isStrOf k vs[j] = (ys[j] == k)
  | _, _, .nil, _, hj, _ => absurd hj (Nat.not_lt_zero _)
  | _, _, .cons _ _ _, 0, _, _ => rfl
  | _, _, .cons _ _ r, j + 1, hj, hy => isStrOf_at k r j (by simpa using hj) (by simpa using hy)
section
variable {prog : Program} {w : World} {A : Around} {E : Value → Shared → Prop} {s : Shared} {h₀ : Heap} {L : Addr} {m : Str → Option Value} {news : List (Addr × Obj)} {Q : Value → Shared → Prop} {l fx vx : Addr} {n : Nat} {f : Fd} {t1 t2 t3 tk : Nat}
theorem listAt {its : Array Value} (N : News h₀ L s.heap news) (hm : (l, listOf its n) ∈ news) : s.heap.IsList l its := ⟨_, (N _ hm).1, rfl, n, rfl⟩
theorem notin_F (N : News h₀ L s.heap news) (hm : (fx, listOf (fsOf t1 t2 t3).toArray n) ∈ news) (h : Q (.bool false) s) :
    wpAny (model prog w) A (compareOp .NotIn (.str f.s tk) (.ref fx)) Q E s :=
  notin_list_strs (listAt N hm) (fs_are t1 t2 t3) (by rw [fs_any]; exact h)
theorem index_F (N : News h₀ L s.heap news) (hm : (fx, listOf (fsOf t1 t2 t3).toArray n) ∈ news) (h : Q (.int (f.i : Nat) s.toks) { s with toks := s.toks + 1 }) :
    wpAny (model prog w) A (call (.builtin "list.index") [.ref fx, .str f.s tk]) Q E s := by
  have ho := (N _ hm).1
  have hj : FS.idxOf f.s < 3 := by rw [fs_idx]; exact f.lt
  refine call_meets PySem.F.slot_list_index ⟨_, ho, rfl⟩ PySem.F.entry_list_index (PySem.F.args_list_index_2 _ _)
    (SeqAt.list_indexAt fx (fsOf t1 t2 t3).toArray n none #[] (.str f.s tk) (isStrOf f.s) (FS.idxOf f.s) (by simpa using hj) (by omega) ?_ ?_) ⟨ho, fun y hy => (eq_isStrOf f.s tk (fs_are t1 t2 t3) y (by simpa using hy)).at _ _, by rw [fs_idx]; exact h⟩
  · show isStrOf f.s (fsOf t1 t2 t3)[FS.idxOf f.s] = true
    rw [isStrOf_at f.s (fs_are t1 t2 t3) _ (by simpa using hj) (by simpa using hj)]
    simpa using List.getElem_idxOf (l := FS) (x := f.s) (by simpa using hj)
  · intro j hjs hlt
    show isStrOf f.s (fsOf t1 t2 t3)[j] = false
    rw [isStrOf_at f.s (fs_are t1 t2 t3) _ (by simpa using hjs) (by simpa using hjs)]
    exact ne_lt_idxOf hlt _
theorem item_F {value slice : PySem.Expr} {its : List Value} {j : Nat} {v : Value} {u : Nat} (N : News h₀ L s.heap news) (hm : (vx, listOf its.toArray n) ∈ news) (hj : j < 2 ^ 63) (hv : its[j]? = some v) (h : Q v s)
    (hs : subscripted slice false (.ref vx) (.int (j : Int) u) = operate [.ref vx, .int (j : Int) u] (getItem (.ref vx) (.int (j : Int) u)) := by with_unfolding_all rfl) :
    wpAny (model prog w) A (subscriptTail value slice (.ref vx) (.int (j : Int) u)) Q E s :=
  have hl := listAt N hm
  tail_any hl.typeIs slot_list_getitem.lookup (wpAny_getItem_list hl (by omega) (by omega) (by simpa using hv) h) hs
theorem news_updL {h : Heap} {a : Addr} {o o' : Obj} {g : Obj → Obj} (F : Fr h₀ L h m) (N : News h₀ L h news) (hm : (a, o) ∈ news) (e : g o = o') (hf : o'.isFreed = false) : Fr h₀ L (h.update a g) m ∧ News h₀ L (h.update a g) (updL a o' news) := by
  have D := N (a, o) hm
  obtain ⟨oL, es, ep, hL, r⟩ := F.ns
  refine ⟨⟨⟨oL, es, ep, (Heap.get?_update_ne _ _ _ _ (Ne.symm D.2.1)).trans hL, r⟩, fun b x q => (Heap.get?_update_ne _ _ _ _ fun z => ?_).trans (F.keep b x q), F.above⟩, fun p hp => ?_⟩
  · have := D.2.2; rw [← z, q] at this; cases this
  · obtain ⟨r, hr, e2⟩ := List.mem_map.mp hp
    by_cases hq : r.1 = a
    · rw [if_pos hq] at e2
      subst e2
      exact ⟨e ▸ Heap.get?_update_self _ D.1 (e ▸ hf), D.2⟩
    · rw [if_neg hq] at e2
      subst e2
      have P := N r hr
      exact ⟨(Heap.get?_update_ne _ _ _ _ hq).trans P.1, P.2⟩
theorem set_F {its : List Value} {v : Value} {Q : Unit → Shared → Prop} (F : Fr h₀ L s.heap m) (N : News h₀ L s.heap news) (hm : (vx, listOf its.toArray n) ∈ news) (hj : its.length = 3)
    (h : ∀ h', Fr h₀ L h' m → News h₀ L h' (updL vx (listOf (its.set f.i v).toArray n) news) → Q () { s with heap := h' }) :
    wpAny (model prog w) A (setItem (.ref vx) (.int (f.i : Nat) tk) v) Q E s := by
  have hlt := f.lt
  refine ki_setAt (N _ hm).1 (by omega) (by omega) (by simp [hj]; omega) ?_
  obtain ⟨F', N'⟩ := news_updL (g := Obj.mapSeq (·.setIfInBounds (Int.toNat (f.i : Nat)) v)) (o' := listOf (its.set f.i v).toArray n) F N hm (by simp [Obj.mapSeq, List.setIfInBounds_toArray]) rfl
  exact h _ F' N'
end
section
variable {prog : Program} {w : World} {A : Around} {E : Value → Shared → Prop} {s : Shared} {h₀ : Heap} {L : Addr} {m : Str → Option Value} {news : List (Addr × Obj)} {Q : Value → Shared → Prop} {l fx vx : Addr} {n : Nat} {f : Fd} {t1 t2 t3 tk : Nat}
theorem notin_FA (h : Q (.bool false) s) (N : News h₀ L s.heap news := by k_asm) (hm : (fx, listOf (fsOf t1 t2 t3).toArray n) ∈ news := by k_mem) : wpAny (model prog w) A (compareOp .NotIn (.str f.s tk) (.ref fx)) Q E s := notin_F N hm h
theorem index_FA (h : Q (.int (f.i : Nat) s.toks) { s with toks := s.toks + 1 }) (N : News h₀ L s.heap news := by k_asm) (hm : (fx, listOf (fsOf t1 t2 t3).toArray n) ∈ news := by k_mem) : wpAny (model prog w) A (call (.builtin "list.index") [.ref fx, .str f.s tk]) Q E s := index_F N hm h
theorem item_FA {value slice : PySem.Expr} {u : Mu} {tu : Nat} (h : Q (u.get f) s) (N : News h₀ L s.heap news := by k_asm) (hm : (vx, listOf u.vals.toArray n) ∈ news := by k_mem)
    (hs : subscripted slice false (.ref vx) (.int (f.i : Nat) tu) = operate [.ref vx, .int (f.i : Nat) tu] (getItem (.ref vx) (.int (f.i : Nat) tu)) := by with_unfolding_all rfl) :
    wpAny (model prog w) A (subscriptTail value slice (.ref vx) (.int (f.i : Nat) tu)) Q E s := item_F N hm (Nat.lt_trans f.lt (by decide)) (Mu.vals_get _ _) h hs
theorem set_FA {u : Mu} {v : Value} {Q : Unit → Shared → Prop} (h : ∀ h', Fr h₀ L h' m → News h₀ L h' (updL vx (listOf (u.vals.set f.i v).toArray n) news) → Q () { s with heap := h' }) (F : Fr h₀ L s.heap m := by k_asm) (N : News h₀ L s.heap news := by k_asm) (hm : (vx, listOf u.vals.toArray n) ∈ news := by k_mem) :
    wpAny (model prog w) A (setItem (.ref vx) (.int (f.i : Nat) tk) v) Q E s := set_F F N hm rfl h
end

local macro_rules | `(tactic| k_room) => `(tactic| ktr_room)
local macro_rules | `(tactic| k_units) => `(tactic| ktr_units)
local macro_rules | `(tactic| k_mem) => `(tactic| (refine' mem_show ?_; ktr_member))
local macro_rules | `(tactic| walk_at "compareOp NotIn") => `(tactic| (k_here; with_unfolding_all refine notin_FA ?_; k_whole))
local macro_rules | `(tactic| walk_at "getMethod ref") => `(tactic| (k_here; (with_reducible show wpAny _ _ (getMethod (Value.ref _) (PySem.Str.ofString "index") _) _ _ _); k_dflt (refine' listMethod_K ?N ?m PySem.F.slot_list_index PySem.F.type_list_index ?_; (case N => k_asm); (case m => k_mem))))
local macro_rules | `(tactic| walk_at "call builtin:list.index") => `(tactic| (k_here; with_unfolding_all refine index_FA ?_; k_whole))
local macro_rules | `(tactic| walk_at "subscriptTail") => `(tactic| (k_here; (with_reducible show wpAny _ _ (subscriptTail _ _ (Value.ref _) (Value.int (Nat.cast (Fd.i _)) _)) _ _ _); with_unfolding_all refine item_FA ?_; k_whole))
local macro_rules | `(tactic| walk_at "setItem ref int") => `(tactic| (k_here; with_unfolding_all refine set_FA ?_; k_whole; intro h' F' N'))

theorem get_call {w : World} {g : List Nd} {μ : Nat → Mu} {i : Nat} {n : Nd} {f : Fd} {tk : Nat} {news : Led} (e : g[i]? = some n) (hs : ∀ p ∈ nl w.params 0 g μ, p ∈ news) :
    Call w 348 [.ref n.x, .str f.s tk] 4 news (fun r news' => r = (μ i).get f ∧ news' = news) := by
  w_top off
  unfold Call
  k_fill
  intro mean mg mb dp un gd cn cs a ccd cl outer A₀ base h₀ L m s Q E B F X N T hk hd hu ret
  have h0 : 0 + i = i := Nat.zero_add i
  have hi := hs _ (mem_nl (p := (n.x, instObj 225 n.dx)) (i := 0) e (.head _))
  have hdd := hs _ (mem_nl (p := (n.dx, ndDict w.params n (μ i).mkv)) (i := 0) e (by rw [h0]; exact .tail _ (.head _)))
  have hf := hs _ (mem_nl (p := (n.fx, listOf (fsOf n.l1 n.l2 n.l3).toArray n.nf)) (i := 0) e (.tail _ (.tail _ (.head _))))
  have hv := hs _ (mem_nl (p := (n.vx, listOf (μ i).vals.toArray n.nv)) (i := 0) e (by rw [h0]; exact .tail _ (.tail _ (.tail _ (.head _)))))
  clear hs e
  refine wpAny_call ?_
  k_dflt ktr_enter
  k_steps
  exact ret _ _ _ _ ⟨rfl, rfl⟩ (by k_asm) (news_sub (by k_asm) fun p hp => .tail _ (.tail _ hp))

theorem put_call {w : World} {g : List Nd} {μ : Nat → Mu} {i : Nat} {n : Nd} {f : Fd} {v : Value} {tk : Nat} {news news₁ : Led} (sp : Sep g) (e : g[i]? = some n) (C : Chg (nl w.params 0 g μ) (nl w.params 0 g (put μ i f v)) (Off g) news news₁) :
    Call w 355 [.ref n.x, .str f.s tk, v] 4 news (fun r news' => r = .none ∧ news' = news₁) := by
  w_top off
  unfold Call
  k_fill
  intro mean mg mb dp un gd cn cs a ccd cl outer A₀ base h₀ L m s Q E B F X N T hk hd hu ret
  have h0 : 0 + i = i := Nat.zero_add i
  have hi := C.sub _ (mem_nl (p := (n.x, instObj 225 n.dx)) (i := 0) e (.head _))
  have hdd := C.sub _ (mem_nl (p := (n.dx, ndDict w.params n (μ i).mkv)) (i := 0) e (by rw [h0]; exact .tail _ (.head _)))
  have hf := C.sub _ (mem_nl (p := (n.fx, listOf (fsOf n.l1 n.l2 n.l3).toArray n.nf)) (i := 0) e (.tail _ (.tail _ (.head _))))
  have hv := C.sub _ (mem_nl (p := (n.vx, listOf (μ i).vals.toArray n.nv)) (i := 0) e (by rw [h0]; exact .tail _ (.tail _ (.tail _ (.head _)))))
  have fin := chg_put sp e C
  clear C e
  refine wpAny_call ?_
  k_dflt ktr_enter
  k_steps
  refine' ret _ _ _ _ ⟨rfl, rfl⟩ ?_ ?_
  · k_asm
  · exact news_sub (by k_asm) fun p hp => .tail _ (.tail _ (fin p hp))

theorem call_use2 {w : World} {f : Addr} {args : List Value} {cost : Nat} {news : Led} {post : Value → Led → Prop} {mean : ExcName → Option Value} {mg mb : Str → Option Value} {dp un : Nat} {gd : Option (List Code)} {cn : Str} {cs : Scope} {a : Addr} {ccd : Value} {cl : List (Str × Addr)} {outer : List Env} {A₀ : Around} {base h₀ : Heap} {L : Addr} {m : Str → Option Value} {s : Shared} {Q E : Value → Shared → Prop}
    (B : Below A₀ base outer h₀ := by k_asm) (F : Fr h₀ L s.heap m := by k_asm) (X : (Mine.hd.heap_39 w.params).In h₀ := by k_asm) (N : News h₀ L s.heap news := by k_asm) (T : Top q (looseW q names) mean mg mb h₀ := by k_asm) (hk : cs.kind = .function := by first | assumption | exact rfl)
    (C : Call w f args cost news post) (hd : dp + cost < recursionLimit := by ktr_room) (hu : un + 8 * cost < cLine := by ktr_units)
    (ret : ∀ r news' h' tk', post r news' → Fr h₀ L h' m → News h₀ L h' news' → Q r { s with heap := h', toks := tk' }) :
    wpAny (model PySem.Challenge.rw_sj0191_01.row.prog w) (ktrTop dp un gd cn cs L a ccd cl outer) (call (.ref f) args) Q E s := C mean mg mb dp un gd cn cs a ccd cl outer A₀ base h₀ L m s Q E B F X N T hk hd hu ret
theorem fs_L : Str.ofString "LEFT" = Fd.s .L := rfl
theorem fs_R : Str.ofString "RIGHT" = Fd.s .R := rfl
theorem fs_K : Str.ofString "KEY" = Fd.s .K := rfl
theorem get_val {w : World} {g : List Nd} {μ : Nat → Mu} {i : Nat} {n : Nd} {f : Fd} {fs : Str} {v : Value} {tk : Nat} {news : Led} (hf : fs = f.s := by ktr_rel) (e : g[i]? = some n := by assumption) (hs : ∀ p ∈ nl w.params 0 g μ, p ∈ news := by ktr_rel) (hv : (μ i).get f = v := by ktr_rel) :
    Call w 348 [.ref n.x, .str fs tk] 4 news (fun r news' => r = v ∧ news' = news) := hv ▸ hf ▸ get_call e hs
theorem put_val {w : World} {g : List Nd} {μ : Nat → Mu} {i : Nat} {n : Nd} {f : Fd} {fs : Str} {v : Value} {tk : Nat} {news news₁ : Led} (hf : fs = f.s := by ktr_rel) (sp : Sep g := by assumption) (e : g[i]? = some n := by assumption) (C : Chg (nl w.params 0 g μ) (nl w.params 0 g (put μ i f v)) (Off g) news news₁ := by ktr_rel) :
    Call w 355 [.ref n.x, .str fs tk, v] 4 news (fun r news' => r = .none ∧ news' = news₁) := hf ▸ put_call sp e C
theorem Chg.split {A B l l' : Led} {off : Addr → Prop} (h : Chg A B off l l') : ∃ pre, l = pre ++ A ∧ l' = pre ++ B ∧ ∀ p ∈ pre, off p.1 := by
  induction h with
  | here => exact ⟨[], rfl, rfl, fun _ h => nomatch h⟩
  | @cons p l l' ho _ ih =>
    obtain ⟨pre, rfl, rfl, h⟩ := ih
    exact ⟨p :: pre, rfl, rfl, fun q hq => (List.mem_cons.mp hq).elim (fun e => e ▸ ho) (h q)⟩
theorem Chg.pre {A B : Led} {off : Addr → Prop} : ∀ {pre : Led}, (∀ p ∈ pre, off p.1) → Chg A B off (pre ++ A) (pre ++ B)
  | [], _ => .here
  | _ :: _, h => .cons (h _ (.head _)) (Chg.pre fun p hp => h p (.tail _ hp))
theorem off_of_lt' {P : Params} {μ : Nat → Mu} {g : List Nd} {i : Nat} {a : Addr} {pre : Led} (h : AllLt a (pre ++ nl P i g μ)) : Off g a := fun hm => by
  rw [← nl_addr (P := P) (μ := μ) (i := i)] at hm
  obtain ⟨p, hp, e⟩ := List.mem_map.mp hm
  exact Nat.ne_of_lt (ktn_ltOf h p (List.mem_append.mpr (.inr hp))) e
theorem off_of_all {P : Params} {μ : Nat → Mu} {g : List Nd} {i : Nat} {a : Addr} {pre : Led} (h : ∀ p ∈ pre ++ nl P i g μ, p.1 < a) : Off g a := off_of_lt' (allLt_of h)
theorem off_of_all' {P : Params} {μ : Nat → Mu} {g : List Nd} {i : Nat} {a : Addr} (h : ∀ p ∈ nl P i g μ, p.1 < a) : Off g a := off_of_lt (allLt_of h)
theorem sub_here {A : Led} : ∀ p ∈ A, p ∈ A := fun _ h => h
theorem sub_cons {A l : Led} {q : Addr × Obj} (h : ∀ p ∈ A, p ∈ l) : ∀ p ∈ A, p ∈ q :: l := fun p hp => .tail _ (h p hp)
theorem sub_both {A l : Led} {q : Addr × Obj} (hq : q ∈ l) (h : ∀ p ∈ A, p ∈ l) : ∀ p ∈ q :: A, p ∈ l := fun p hp => (List.mem_cons.mp hp).elim (fun e => e ▸ hq) (h p)
theorem sub_app {A pre : Led} : ∀ p ∈ A, p ∈ pre ++ A := fun _ h => List.mem_append.mpr (.inr h)
noncomputable def opp : Fd → Fd
  | .L => .R
  | .K => .R
  | .R => .L
theorem true_of_not_F {P : Prop} (h : P) : P := h

section
variable {w : World} {A : Around} {E : Value → Shared → Prop} {s : Shared} {x : Addr} {ox : Obj} {od : Option Obj} {b : Str} {t : Nat} {K : Frag} {C : Addr} {prog : Program}
theorem bind_obj_eq (self : Value) : bindSpecial (.builtin "object.__eq__") self = pure (.builtin "object.__eq__", [self]) := PySem.F.cmp_object.eq.bind self
theorem bind_obj_ne (self : Value) : bindSpecial (.builtin "object.__ne__") self = pure (.builtin "object.__ne__", [self]) := PySem.F.cmp_object.ne.bind self
theorem csb_inst {id : String} {name : Str} {a : Value} {Q : Option Value → Shared → Prop} (X : K.In s.heap) (I : InstAt s.heap x ox C od) (hs : findIn K (.ref C) name = some (some (.builtin id)))
    (hb : bindSpecial (.builtin id) (.ref x) = pure (.builtin id, [.ref x])) (hc : wpAny (model prog w) A (call (.builtin id) [.ref x, a]) (fun v => Q (some v)) E s) :
    wpAny (model prog w) A (callSpecialIfBound? (.ref x) name [a]) Q E s := by
  simp only [callSpecialIfBound?, bindSpecialIfBound?, specialOf]
  refine wpAny_holding (wpAny_bind (wpAny_bind (wpAny_bind (I.type.here ((looks_findIn X hs).here ?_)))))
  simp only [hb]
  refine wpAny_bind (wpAny_askSetting (wpAny_ite ?_))
  have fin : wpAny (model prog w) A (call (.builtin id) ([.ref x] ++ [a]) >>= fun v => pure (some v)) Q E s :=
    wpAny_bind (wpAny_mono hc (fun v s' h' => wpAny_pure h') fun _ _ h' => h')
  split
  · exact wpAny_bind (wpAny_pure (wpAny_pure fin))
  · exact wpAny_tryCatch (wpAny_bind (wpAny_pure (wpAny_pure fin)))
theorem looks_isObj (X : K.In s.heap) (I : InstAt s.heap x ox C od) (hsub : subIn K (.ref C) (.type "object") = some true) : Looks (model prog w) s.heap (isInstance (.ref x) (.type "object")) true :=
  I.type.andThen (looks_subIn X hsub)
theorem call_oe_str {Q : Value → Shared → Prop} (X : K.In s.heap) (I : InstAt s.heap x ox C od) (hsub : subIn K (.ref C) (.type "object") = some true) (h : Q .notImplemented s) :
    wpAny (model prog w) A (call (.builtin "object.__eq__") [.ref x, .str b t]) Q E s :=
  wpAny_call (codeAny_call_builtin PySem.F.cmp_object.eq.plain PySem.F.cmpEntry_eq (check_slot PySem.F.cmpKind_eq PySem.F.cmpSplit_eq (looks_isObj X I hsub) (PySem.F.cmpArgs_eq _ _) (by
    have e : Builtin.«object.__eq__» ⟨[.ref x, .str b t], []⟩ = pure (.done (.ret .notImplemented)) := by kernel_rfl
    rw [e]; exact wpAny_pure h)))
theorem call_one_str {Q : Value → Shared → Prop} (X : K.In s.heap) (I : InstAt s.heap x ox C od) (hsub : subIn K (.ref C) (.type "object") = some true) (he : findIn K (.ref C) "__eq__" = some (some (.builtin "object.__eq__"))) (hu : A.in1.units < cLine) (h : Q .notImplemented s) :
    wpAny (model prog w) A (call (.builtin "object.__ne__") [.ref x, .str b t]) Q E s :=
  wpAny_call (codeAny_call_builtin PySem.F.cmp_object.ne.plain PySem.F.cmpEntry_ne (check_slot PySem.F.cmpKind_ne PySem.F.cmpSplit_ne (looks_isObj X I hsub) (PySem.F.cmpArgs_ne _ _) (by
    unfold Builtin.«object.__ne__»
    refine wpAny_bind (wpAny_pure ?_)
    refine wpAny_bind (wpAny_cRoomFor (by simpa using hu) ?_)
    refine wpAny_bind (csb_inst X I he (bind_obj_eq _) (call_oe_str X I hsub ?_))
    exact wpAny_pure h)))
theorem str_eq_decl (hx : s.heap.get? x = some ox) (hd : ox.data = .plain) {Q : Value → Shared → Prop} (h : Q .notImplemented s) : wpAny (model prog w) A (call (.builtin "str.__eq__") [.str b t, .ref x]) Q E s :=
  call_meets (S := fun _ R s => (s.heap.get? x = some ox ∧ ox.data = .plain) ∧ R (.ok (.ret .notImplemented)) s) PySem.F.slot_str_eq (typeIs_str s b t) PySem.F.entry_str_eq (PySem.F.args_str_eq_2 _ _)
    (.of_wp fun prog w A R s h => by
      obtain ⟨⟨hx, hd⟩, h⟩ := h
      obtain ⟨oc, odi, oda, osl⟩ := ox
      dsimp only at hd
      subst hd
      obtain ⟨hp, g, d, tk, os⟩ := s
      wp_walk using wpAny_loadPart' hx, wpAny_load hx
      exact ⟨_, rfl, h⟩) ⟨⟨hx, hd⟩, h⟩
theorem str_ne_decl (hx : s.heap.get? x = some ox) (hd : ox.data = .plain) {Q : Value → Shared → Prop} (h : Q .notImplemented s) : wpAny (model prog w) A (call (.builtin "str.__ne__") [.str b t, .ref x]) Q E s :=
  call_meets (S := fun _ R s => (s.heap.get? x = some ox ∧ ox.data = .plain) ∧ R (.ok (.ret .notImplemented)) s) PySem.F.slot_str_ne (typeIs_str s b t) PySem.F.entry_str_ne (PySem.F.args_str_ne_2 _ _)
    (.of_wp fun prog w A R s h => by
      obtain ⟨⟨hx, hd⟩, h⟩ := h
      obtain ⟨oc, odi, oda, osl⟩ := ox
      dsimp only at hd
      subst hd
      obtain ⟨hp, g, d, tk, os⟩ := s
      wp_walk using wpAny_loadPart' hx, wpAny_load hx
      exact ⟨_, rfl, h⟩) ⟨⟨hx, hd⟩, h⟩
theorem tc_of {self other : Value} {name : Str} {Q : Option Value → Shared → Prop} (h : wpAny (model prog w) A (callSpecialIfBound? self name [other]) (fun r s' => r = some .notImplemented ∧ Q none s') E s) : wpAny (model prog w) A (tryCompare self name other) Q E s := by
  simp only [tryCompare]
  refine wpAny_bind (wpAny_mono h (fun v s' h' => ?_) fun _ _ h' => h')
  obtain ⟨rfl, hq⟩ := h'
  exact wpAny_pure hq
theorem one_none (op : CmpOp) : oneThing? op (.ref x) (.str b t) = none := by cases op <;> rfl
theorem eq_inst_str {Q : Value → Shared → Prop} (X : K.In s.heap) (I : InstAt s.heap x ox C od) (hp : ox.data = .plain) (hsub : subIn K (.ref C) (.type "object") = some true) (hst : subIn K (.type "str") (.ref C) = some false)
    (he : findIn K (.ref C) "__eq__" = some (some (.builtin "object.__eq__"))) (hu : A.units < cLine) (h : Q (.bool false) s) : wpAny (model prog w) A (compareOp .Eq (.ref x) (.str b t)) Q E s := by
  refine cmp_ofEq ?_
  simp only [richCompare, cmpInfo_Eq, one_none]
  refine wpAny_holding (wpAny_bind (wpAny_cRoomFor hu ?_))
  refine wpAny_bind (I.type.here (wpAny_bind (wpAny_typeOf (typeIs_str s b t) ?_)))
  have hne : (Value.ref C != Value.type "str") = true := rfl
  simp only [hne, if_true]
  refine wpAny_bind ((looks_subIn X hst).here ?_)
  simp only [Bool.false_eq_true, if_false, Bool.not_false, if_true]
  refine wpAny_bind (tc_of (csb_inst X I he (bind_obj_eq _) (call_oe_str X I hsub ⟨rfl, ?_⟩)))
  refine wpAny_bind (m := tryCompare (.str b t) _ _) (wpAny_tryCompare_declines (typeIs_str s b t) PySem.F.slot_str_eq_refl (str_eq_decl I.at_ hp ⟨rfl, ?_⟩))
  exact wpAny_bind (wpAny_rule (wpAny_bind (wpAny_of_eq (rfl : isSame (.ref x) (.str b t) = pure false) (wpAny_pure h))))
theorem ne_inst_str {Q : Value → Shared → Prop} (X : K.In s.heap) (I : InstAt s.heap x ox C od) (hp : ox.data = .plain) (hsub : subIn K (.ref C) (.type "object") = some true) (hst : subIn K (.type "str") (.ref C) = some false)
    (he : findIn K (.ref C) "__eq__" = some (some (.builtin "object.__eq__"))) (hn : findIn K (.ref C) "__ne__" = some (some (.builtin "object.__ne__"))) (hu : A.units + 1 < cLine) (h : Q (.bool true) s) : wpAny (model prog w) A (compareOp .NotEq (.ref x) (.str b t)) Q E s := by
  refine cmp_ofNotEq ?_
  simp only [richCompare, cmpInfo_NotEq, one_none]
  refine wpAny_holding (wpAny_bind (wpAny_cRoomFor (by omega) ?_))
  refine wpAny_bind (I.type.here (wpAny_bind (wpAny_typeOf (typeIs_str s b t) ?_)))
  have hne : (Value.ref C != Value.type "str") = true := rfl
  simp only [hne, if_true]
  refine wpAny_bind ((looks_subIn X hst).here ?_)
  simp only [Bool.false_eq_true, if_false, Bool.not_false, if_true]
  refine wpAny_bind (tc_of (csb_inst X I hn (bind_obj_ne _) (call_one_str X I hsub he (by simpa using hu) ⟨rfl, ?_⟩)))
  refine wpAny_bind (m := tryCompare (.str b t) _ _) (wpAny_tryCompare_declines (typeIs_str s b t) PySem.F.slot_str_ne_refl (str_ne_decl I.at_ hp ⟨rfl, ?_⟩))
  exact wpAny_bind (wpAny_rule (wpAny_bind (wpAny_of_eq (rfl : isSame (.ref x) (.str b t) = pure false) (wpAny_pure h))))
end

theorem inst_of {h₀ h : Heap} {L : Addr} {news : Led} {P : Params} {g : List Nd} {μ : Nat → Mu} {i : Nat} {n : Nd} (N : News h₀ L h news) (hs : ∀ p ∈ nl P 0 g μ, p ∈ news) (e : g[i]? = some n) :
    InstAt h n.x (instObj 225 n.dx) 225 (some (ndDict P n (μ i).mkv)) :=
  InstAt.of_news N (hs _ (mem_nl (i := 0) e (.head _))) (hs _ (mem_nl (p := (n.dx, ndDict P n (μ i).mkv)) (i := 0) e (by rw [Nat.zero_add]; exact .tail _ (.head _))))

local macro_rules | `(tactic| ktr_rel) => `(tactic| first
  | assumption
  | exact sub_here
  | exact sub_app
  | exact Chg.here
  | exact Chg.pre (by assumption)
  | (refine' sub_cons ?_; ktr_rel)
  | (apply Chg.cons; ktr_rel; ktr_rel)
  | exact ktn_ltOf (by tbn_find)
  | exact off_of_lt (by tbn_find)
  | exact off_of_all (by assumption)
  | exact off_of_all' (by assumption)
  | exact off_of_lt' (by tbn_find)
  | exact rfl
  | exact fs_L
  | exact fs_R
  | exact fs_K)
local macro_rules | `(tactic| ktn_open) => `(tactic| (k_whole; intro r9 n9 h9 tk9 hp9 F9 N9; (obtain ⟨e9, e8⟩ := hp9); subst e9; subst e8; (try dsimp only); (try k_fold)))
local macro_rules | `(tactic| walk_at "call ref") => `(tactic| (k_here; k_dflt (first | refine call_use2 (C := get_val) (ret := ?_) | refine call_use2 (C := put_val) (ret := ?_)); ktn_open))

inductive Tr where
  | nil
  | node (l : Tr) (i : Nat) (r : Tr)
noncomputable def Tr.idx : Tr → List Nat
  | .nil => []
  | .node l i r => l.idx ++ i :: r.idx
noncomputable def Tr.size : Tr → Nat
  | .nil => 0
  | .node l _ r => l.size + r.size + 1
noncomputable def Tr.kv (μ : Nat → Mu) : Tr → List Value
  | .nil => []
  | .node l i r => (l.kv μ ++ [(μ i).k]) ++ r.kv μ
theorem Tr.kv_len (μ : Nat → Mu) : ∀ T : Tr, (T.kv μ).length = T.size
  | .nil => rfl
  | .node l i r => by simp only [Tr.kv, Tr.size, List.length_append, List.length_cons, List.length_nil, Tr.kv_len μ l, Tr.kv_len μ r]; omega
inductive IsT (g : List Nd) (μ : Nat → Mu) : Value → Tr → Prop
  | nil {t : Nat} : IsT g μ (.str "" t) .nil
  | node {i : Nat} {n : Nd} {l r : Tr} : g[i]? = some n → IsT g μ (μ i).l l → IsT g μ (μ i).r r → IsT g μ (.ref n.x) (.node l i r)
section
variable {prog : Program} {w : World} {A : Around} {E : Value → Shared → Prop} {s : Shared} {h₀ : Heap} {L a b : Addr} {m : Str → Option Value} {news : Led} {xs ys : List Value} {n1 n2 : Nat} {Q : Value → Shared → Prop}
theorem add_ll (F : Fr h₀ L s.heap m) (N : News h₀ L s.heap news) (ha : (a, listOf xs.toArray n1) ∈ news) (hb : (b, listOf ys.toArray n2) ∈ news) (hz : xs.length + ys.length ≤ sizeLine)
    (h : ∀ D h', Fr h₀ L h' m → News h₀ L h' ((D, listOf (xs ++ ys).toArray 0) :: news) → (∀ p ∈ news, p.1 < D) → Q (.ref D) { s with heap := h' }) : wpAny (model prog w) A (binaryOp .Add (.ref a) (.ref b)) Q E s :=
  kmk_add_lit F N (listAt N ha) (listAt N hb) rfl h hz
end
noncomputable def KeysC (w : World) (g : List Nd) (μ : Nat → Mu) (v : Value) (T : Tr) : Prop :=
  ∀ news : Led, (∀ p ∈ nl w.params 0 g μ, p ∈ news) → Call w 362 [v] (8 + T.size) news (fun r nw => ∃ D, r = .ref D ∧ nw = (D, listOf (T.kv μ).toArray 0) :: news ∧ ∀ p ∈ news, p.1 < D)
theorem KeysC.use {w : World} {g : List Nd} {μ : Nat → Mu} {v : Value} {T : Tr} {news : Led} (h : KeysC w g μ v T := by assumption) (hs : ∀ p ∈ nl w.params 0 g μ, p ∈ news := by ktr_rel) :
    Call w 362 [v] (8 + T.size) news (fun r nw => ∃ D, r = .ref D ∧ nw = (D, listOf (T.kv μ).toArray 0) :: news ∧ ∀ p ∈ news, p.1 < D) := h news hs

theorem opp_eval {w : World} {A : Around} {h₀ : Heap} {L a : Addr} {cd : Value} {m : Str → Option Value} {s : Shared} {Q E : Value → Shared → Prop} {sd : Fd} {tk : Nat} {scope : Scope} {nm : Str} {p1 p2 p3 p4 p5 p6 : Pos}
    (F : Fr h₀ L s.heap m) (hsd : sd ≠ .K) (hm : m (Str.ofString "side") = some (.str sd.s tk)) (hk : scope.kind = .function) (hl : (envOf nm scope L a cd).kindOf (Str.ofString "side") = some .local)
    (h : ∀ t tk', Q (.str (opp sd).s t) { s with toks := tk' }) :
    wpAny (model PySem.Challenge.rw_sj0191_01.row.prog w) A (eval (.IfExp (.Compare (.Name (Str.ofString "side") p1) [.Eq] [.Constant (.str (Str.ofString "RIGHT")) 0 p2] p3) (.Constant (.str (Str.ofString "LEFT")) 0 p4) (.Constant (.str (Str.ofString "RIGHT")) 0 p5) p6) (envOf nm scope L a cd)) Q E s := by
  cases sd with
  | K => exact absurd rfl hsd
  | L =>
    walk1
    walk1
    refine ld F hm ?_ hk hl (by decide)
    walk1
    walk1
    walk1
    walk1
    walk1
    exact h _ _
  | R =>
    walk1
    walk1
    refine ld F hm ?_ hk hl (by decide)
    walk1
    walk1
    walk1
    walk1
    walk1
    exact h _ _
section
variable {w : World} {A : Around} {E : Value → Shared → Prop} {s : Shared} {h₀ : Heap} {L : Addr} {news : Led} {g : List Nd} {μ : Nat → Mu} {i t : Nat} {n : Nd} {b : Str} {Q : Value → Shared → Prop}
theorem eq_nd (h : Q (.bool false) s) (X : (Mine.hd.heap_39 w.params).In s.heap := by k_in) (N : News h₀ L s.heap news := by k_asm) (e : g[i]? = some n := by assumption) (hs : ∀ p ∈ nl w.params 0 g μ, p ∈ news := by ktr_rel)
    (a1 : subIn (Mine.hd.heap_39 w.params) (.ref 225) (.type "object") = some true := by k_is) (a2 : subIn (Mine.hd.heap_39 w.params) (.type "str") (.ref 225) = some false := by k_is) (a3 : findIn (Mine.hd.heap_39 w.params) (.ref 225) "__eq__" = some (some (.builtin "object.__eq__")) := by k_is) (u : A.units < cLine := by ktr_units) :
    wpAny (model PySem.Challenge.rw_sj0191_01.row.prog w) A (compareOp .Eq (.ref n.x) (.str b t)) Q E s := eq_inst_str X (inst_of N hs e) rfl a1 a2 a3 u h
theorem ne_nd (h : Q (.bool true) s) (X : (Mine.hd.heap_39 w.params).In s.heap := by k_in) (N : News h₀ L s.heap news := by k_asm) (e : g[i]? = some n := by assumption) (hs : ∀ p ∈ nl w.params 0 g μ, p ∈ news := by ktr_rel)
    (a1 : subIn (Mine.hd.heap_39 w.params) (.ref 225) (.type "object") = some true := by k_is) (a2 : subIn (Mine.hd.heap_39 w.params) (.type "str") (.ref 225) = some false := by k_is) (a3 : findIn (Mine.hd.heap_39 w.params) (.ref 225) "__eq__" = some (some (.builtin "object.__eq__")) := by k_is) (a4 : findIn (Mine.hd.heap_39 w.params) (.ref 225) "__ne__" = some (some (.builtin "object.__ne__")) := by k_is) (u : A.units + 1 < cLine := by ktr_units) :
    wpAny (model PySem.Challenge.rw_sj0191_01.row.prog w) A (compareOp .NotEq (.ref n.x) (.str b t)) Q E s := ne_inst_str X (inst_of N hs e) rfl a1 a2 a3 a4 u h
end
theorem opp_evalA {w : World} {A : Around} {h₀ : Heap} {L a : Addr} {cd : Value} {m : Str → Option Value} {s : Shared} {Q E : Value → Shared → Prop} {sd : Fd} {tk : Nat} {scope : Scope} {nm : Str} {p1 p2 p3 p4 p5 p6 : Pos} (h : ∀ t tk', Q (.str (opp sd).s t) { s with toks := tk' })
    (F : Fr h₀ L s.heap m := by k_asm) (hsd : sd ≠ .K := by assumption) (hm : m (Str.ofString "side") = some (.str sd.s tk) := by exact rfl) (hk : scope.kind = .function := by exact rfl) (hl : (envOf nm scope L a cd).kindOf (Str.ofString "side") = some .local := by exact rfl) :
    wpAny (model PySem.Challenge.rw_sj0191_01.row.prog w) A (eval (.IfExp (.Compare (.Name (Str.ofString "side") p1) [.Eq] [.Constant (.str (Str.ofString "RIGHT")) 0 p2] p3) (.Constant (.str (Str.ofString "LEFT")) 0 p4) (.Constant (.str (Str.ofString "RIGHT")) 0 p5) p6) (envOf nm scope L a cd)) Q E s := opp_eval F hsd hm hk hl h

local macro_rules | `(tactic| walk_at "eval IfExp") => `(tactic| (k_here; (fail_if_success (with_reducible show wpAny _ _ (eval _ (compEnvC _ _ _ _)) _ _ _)); k_dflt (refine opp_evalA ?_; k_whole); intro t9 tk9))
local macro_rules | `(tactic| walk_at "compareOp Eq ref") => `(tactic| (k_here; k_dflt (refine eq_nd ?_; k_whole)))
local macro_rules | `(tactic| walk_at "compareOp NotEq ref") => `(tactic| (k_here; k_dflt (refine ne_nd ?_; k_whole)))

theorem turn_no {w : World} {g : List Nd} {μ : Nat → Mu} {i j : Nat} {no nu : Nd} {f sd : Fd} {t1 t2 t3 : Nat} {news : Led} (e : g[i]? = some no) (e2 : g[j]? = some nu) (hv : (μ i).get f = .ref nu.x) (hl : (μ j).get sd = .str "" t3) (hsd : sd ≠ .K)
    (hs : ∀ p ∈ nl w.params 0 g μ, p ∈ news) :
    Call w 374 [.ref no.x, .str f.s t1, .str sd.s t2] 8 news (fun r news' => r = .bool false ∧ news' = news) := by
  w_top off
  unfold Call
  k_fill
  intro mean mg mb dp un gd cn cs a ccd cl outer A₀ base h₀ L m s Q E B F X N T hk hd hu ret
  refine wpAny_call ?_
  k_dflt ktr_enter
  k_steps
  exact ret _ _ _ _ ⟨rfl, rfl⟩ (by k_asm) (news_sub (by k_asm) (by ktr_rel))

theorem turn_yes {w : World} {g : List Nd} {μ : Nat → Mu} {i j k : Nat} {no nu nw : Nd} {f sd : Fd} {t1 t2 : Nat} {news news₁ : Led} (sp : Sep g) (e : g[i]? = some no) (e2 : g[j]? = some nu) (e3 : g[k]? = some nw) (hv : (μ i).get f = .ref nu.x) (hl : (μ j).get sd = .ref nw.x) (hsd : sd ≠ .K)
    (C : Chg (nl w.params 0 g μ) (nl w.params 0 g (put (put (put μ j sd ((μ k).get (opp sd))) k (opp sd) (.ref nu.x)) i f (.ref nw.x))) (Off g) news news₁) :
    Call w 374 [.ref no.x, .str f.s t1, .str sd.s t2] 8 news (fun r news' => r = .bool true ∧ news' = news₁) := by
  w_top off
  unfold Call
  k_fill
  intro mean mg mb dp un gd cn cs a ccd cl outer A₀ base h₀ L m s Q E B F X N T hk hd hu ret
  obtain ⟨pre, rfl, rfl, hoff⟩ := C.split
  clear C
  refine wpAny_call ?_
  k_dflt ktr_enter
  k_steps
  exact ret _ _ _ _ ⟨rfl, rfl⟩ (by k_asm) (news_sub (by k_asm) (by ktr_rel))

local macro_rules | `(tactic| tb_start) => `(tactic| (k_whole; intro r9 n9 h9 tk9 hp9 F9 N9; (obtain ⟨D9, e9, e8, l9⟩ := hp9); subst e9; subst e8; (try dsimp only); (try k_lt l9); (try k_fold)))
local macro_rules | `(tactic| walk_at "call ref") => `(tactic| (k_here; k_dflt (refine call_use2 (C := KeysC.use) (ret := ?_)); tb_start))
local macro_rules | `(tactic| walk_at "binaryOp Add ref ref") => `(tactic| (k_here; k_dflt (refine add_ll (by k_asm) (by k_asm) (by k_mem) (by k_mem) (by assumption) ?_; k_whole); intro D' h' F' N' l1; (try k_lt l1)))

theorem keys_nil {w : World} {g : List Nd} {μ : Nat → Mu} {t : Nat} : KeysC w g μ (.str "" t) .nil := by
  intro news hs
  w_top off
  unfold Call
  k_fill
  intro mean mg mb dp un gd cn cs a ccd cl outer A₀ base h₀ L m s Q E B F X N T hk hd hu ret
  refine wpAny_call ?_
  k_dflt ktr_enter
  k_steps
  exact ret _ _ _ _ ⟨_, rfl, rfl, by assumption⟩ (by k_asm) (by k_asm)
theorem keys_node {w : World} {g : List Nd} {μ : Nat → Mu} {i : Nat} {n : Nd} {tl tr : Tr} (e : g[i]? = some n) (hl : KeysC w g μ (μ i).l tl) (hr : KeysC w g μ (μ i).r tr) (hz : tl.size + tr.size ≤ 1000) :
    KeysC w g μ (.ref n.x) (.node tl i tr) := by
  intro news hs
  w_top off
  unfold Call
  k_fill
  intro mean mg mb dp un gd cn cs a ccd cl outer A₀ base h₀ L m s Q E B F X N T hk hd hu ret
  have z1 : (tl.kv μ).length + [(μ i).k].length ≤ sizeLine := by rw [Tr.kv_len, sizeLine_eq]; simp only [List.length_cons, List.length_nil]; omega
  have z2 : (tl.kv μ ++ [(μ i).k]).length + (tr.kv μ).length ≤ sizeLine := by rw [List.length_append, Tr.kv_len, Tr.kv_len, sizeLine_eq]; simp only [List.length_cons, List.length_nil]; omega
  simp only [Tr.size] at hd hu
  refine wpAny_call ?_
  k_dflt ktr_enter
  k_steps
  exact ret _ _ _ _ ⟨_, rfl, rfl, by ktr_rel⟩ (by k_asm) (news_sub (by k_asm) (sub_both (.head _) (by ktr_rel)))
theorem keys_call {w : World} {g : List Nd} {μ : Nat → Mu} : ∀ {v : Value} {T : Tr}, IsT g μ v T → T.size ≤ 1000 → KeysC w g μ v T := by
  intro v T h
  induction h with
  | nil => exact fun _ => keys_nil
  | node e _ _ ihl ihr =>
    intro hz
    simp only [Tr.size] at hz
    exact keys_node e (ihl (by omega)) (ihr (by omega)) (by omega)

/-! loops -/
noncomputable def LEnd (h₀ : Heap) (L : Addr) (J : (Str → Option Value) → Led → Prop) (own : Led) (I : Addr) (s₁ s₂ : Shared) : Prop :=
  ∃ h' tk m' news', s₂ = { s₁ with heap := h', toks := tk } ∧ Fr h₀ L h' m' ∧ News h₀ L h' (own ++ news') ∧ (∀ q ∈ news', q.1 ≠ I) ∧ J m' news'
noncomputable def LPost (h₀ : Heap) (L : Addr) (J : (Str → Option Value) → Led → Prop) (own : Led) (I : Addr) (s₁ : Shared) (Q : Flow → Shared → Prop) (f : Flow) (s₂ : Shared) : Prop :=
  match f with
  | .ret v => Q (.ret v) s₂
  | .brk => Q .next s₂
  | _ => LEnd h₀ L J own I s₁ s₂
theorem LEnd.intro {h₀ : Heap} {L : Addr} {J : (Str → Option Value) → Led → Prop} {own news' : Led} {I : Addr} {s₁ : Shared} {h' : Heap} {tk : Nat} {m' : Str → Option Value} (F : Fr h₀ L h' m') (N : News h₀ L h' (own ++ news')) (hI : ∀ q ∈ news', q.1 ≠ I) (hJ : J m' news') :
    LEnd h₀ L J own I s₁ { s₁ with heap := h', toks := tk } := ⟨h', tk, m', news', rfl, F, N, hI, hJ⟩
section
variable {prog : Program} {w : World} {A : Around} {E : Value → Shared → Prop} {s : Shared} {env : Env} {h₀ : Heap} {x : Str} {body : List Stmt} {Q : Flow → Shared → Prop}
theorem for_list {l : Addr} {its : List Value} {nn : Nat} {m₀ : Str → Option Value} {news : Led} (J : Nat → (Str → Option Value) → Led → Prop)
    (hh : A.handled = none) (hl : (l, listOf its.toArray nn) ∈ news) (F : Fr h₀ env.locals s.heap m₀) (N : News h₀ env.locals s.heap news) (hj : J 0 m₀ news)
    (turn : ∀ i v m₁ news₁ I oI ol h tk, its[i]? = some v → J i m₁ news₁ → (∀ q ∈ news₁, q.1 ≠ I) → I ≠ l → Fr h₀ env.locals h (fun y => if y = x then some v else m₁ y) → News h₀ env.locals h ((I, oI) :: (l, ol) :: news₁) →
      wpAny (model prog w) A (execs body env) (LPost h₀ env.locals (J (i + 1)) [(I, oI), (l, ol)] I { s with heap := h, toks := tk } Q) E { s with heap := h, toks := tk })
    (done : ∀ m₁ news₁ h tk, J its.length m₁ news₁ → Fr h₀ env.locals h m₁ → News h₀ env.locals h news₁ → Q .next { s with heap := h, toks := tk }) :
    wpAny (model prog w) A (pyIter (.ref l)) (fun it s₂ => LoopAtV prog w A h₀ env x body Q E it s₂) E s := by
  have hol : s.heap.get? l = some (listOf its.toArray nn) := (N _ hl).1
  have hls : s.heap.IsList l its.toArray := ⟨_, hol, rfl, nn, rfl⟩
  have hne : l ≠ s.heap.objs.size := Nat.ne_of_lt (Heap.lt_size hol)
  have hl0 : h₀.get? l = none := (N _ hl).2.2
  have hlL : l ≠ env.locals := (N _ hl).2.1
  refine wpAny_pyIter_list hls ?_
  have W := Walks.list (prog := prog) (w := w) hh s.heap.objs.size l hne its.toArray
  have hlen : its.toArray.size = its.length := by simp
  rw [hlen] at W
  have hI0 := next_is_new F
  refine ⟨_, _, _, its.length, _, fun i h => (h.IsListIter s.heap.objs.size l i ∧ h.IsList l its.toArray), m₀, news, J, rfl, W, ?_, ?_, ?_, ⟨⟨_, Heap.get?_push_size _ rfl, rfl, rfl⟩, hls.at fun o e => Heap.get?_push_of_some _ e⟩, F.push _, (fun p hp => ⟨Heap.get?_push_of_some _ (N p hp).1, (N p hp).2⟩), hj, ?_, ?_⟩
  · intro hm
    rcases List.mem_cons.mp hm with e | hm
    · exact absurd F.ns.lt (e ▸ Nat.lt_irrefl _)
    · exact hlL (List.mem_singleton.mp hm).symm
  · intro b hb
    rw [List.mem_singleton.mp hb]
    exact hI0
  · intro p hp hI
    exact absurd (Heap.lt_size (N p hp).1) ((List.mem_singleton.mp hI) ▸ Nat.lt_irrefl _)
  · rintro i v m₁ news₁ s₁ own ⟨hh', tk', rfl⟩ hin hP hJ hoff hown hat hall st F₁ N₁
    obtain ⟨⟨oI, hoI, _⟩, ⟨ol, hol', _⟩⟩ := st
    have mI : (s.heap.objs.size, oI) ∈ own := hall _ (by simp) hI0 _ hoI
    have ml' : (l, ol) ∈ own := hall _ (by simp) hl0 _ hol'
    have hcase : ∀ p ∈ own, p = (s.heap.objs.size, oI) ∨ p = (l, ol) := by
      intro p hp
      have hp2 := hat p hp
      rcases List.mem_cons.mp (hown p hp) with e | e
      · left
        have e' : p.1 = s.heap.objs.size := e
        rw [e'] at hp2
        have := Option.some.inj (hoI.symm.trans hp2)
        exact Prod.ext e' this.symm
      · right
        have e' : p.1 = l := List.mem_singleton.mp e
        rw [e'] at hp2
        have := Option.some.inj (hol'.symm.trans hp2)
        exact Prod.ext e' this.symm
    have N₂ : News h₀ env.locals hh' ((s.heap.objs.size, oI) :: (l, ol) :: news₁) := fun p hp => by
      rcases List.mem_cons.mp hp with rfl | hp
      · exact N₁ _ (List.mem_append_left _ mI)
      · rcases List.mem_cons.mp hp with rfl | hp
        · exact N₁ _ (List.mem_append_left _ ml')
        · exact N₁ _ (List.mem_append_right _ hp)
    refine wpAny_mono (turn i v m₁ news₁ s.heap.objs.size oI ol hh' tk' (by simpa using hP) hJ (fun q hq e => hoff q hq (by rw [e]; exact .head _)) (Ne.symm hne) F₁ N₂) (fun f s₂ p => ?_) fun _ _ e => e
    have fin : LEnd h₀ env.locals (J (i + 1)) [(s.heap.objs.size, oI), (l, ol)] s.heap.objs.size { s with heap := hh', toks := tk' } s₂ → LoopStepU h₀ env.locals [s.heap.objs.size] own (J (i + 1)) { s with heap := hh', toks := tk' } .next s₂ := by
      rintro ⟨h', tk, m', news', e, F', N', hI, hJ'⟩
      refine ⟨rfl, h', tk, m', news', e, F', fun p hp => ?_, fun p hp hq => hI p hp (List.mem_singleton.mp hq), hJ'⟩
      rcases List.mem_append.mp hp with hp | hp
      · rcases hcase p hp with rfl | rfl
        · exact N' _ (.head _)
        · exact N' _ (.tail _ (.head _))
      · exact N' _ (.tail _ (.tail _ hp))
    cases f with
    | ret v => exact .ret p
    | brk => exact .brk p
    | next => exact .next (fin p)
    | cont => exact .cont (fin p)
  · rintro h' tk m' news' F' N' _ hJ
    exact done m' news' h' tk hJ F' N'
theorem for_range {r : Addr} {a₀ b₀ : Int} {t₀ u₀ v₀ : Nat} {n : Nat} {m₀ : Str → Option Value} {news : Led} (J : Nat → (Str → Option Value) → Led → Prop)
    (hh : A.handled = none) (hr : IsRange s.heap r a₀ b₀ 1 t₀ u₀ v₀) (hsmall : Builtin.Range.small a₀ b₀ 1 = true) (hn : Builtin.Range.rangeSize a₀ b₀ 1 = (n : Int)) (F : Fr h₀ env.locals s.heap m₀) (N : News h₀ env.locals s.heap news) (hj : J 0 m₀ news)
    (turn : ∀ i t m₁ news₁ I oI h tk, i < n → J i m₁ news₁ → (∀ q ∈ news₁, q.1 ≠ I) → Fr h₀ env.locals h (fun y => if y = x then some (.int (a₀ + (i : Int)) t) else m₁ y) → News h₀ env.locals h ((I, oI) :: news₁) →
      wpAny (model prog w) A (execs body env) (LPost h₀ env.locals (J (i + 1)) [(I, oI)] I { s with heap := h, toks := tk } Q) E { s with heap := h, toks := tk })
    (done : ∀ m₁ news₁ h tk, J n m₁ news₁ → Fr h₀ env.locals h m₁ → News h₀ env.locals h news₁ → Q .next { s with heap := h, toks := tk }) :
    wpAny (model prog w) A (pyIter (.ref r)) (fun it s₂ => LoopAtV prog w A h₀ env x body Q E it s₂) E s := by
  refine wpAny_pyIter_range hr hsmall ?_
  have W : Walks prog w A s.heap.objs.size [s.heap.objs.size] [s.heap.objs.size] n (fun i v => i < n ∧ ∃ t, v = .int (a₀ + i * 1) t)
      (fun i h => IsRangeIter h s.heap.objs.size (a₀ + (i : Nat) * 1) ((n : Int) - (i : Nat)) 1) := (Walks.range hh _ a₀ 1 n).bound
  have hI0 := next_is_new F
  refine ⟨_, _, _, n, _, _, m₀, news, J, rfl, W, ?_, ?_, ?_, (by show IsRangeIter _ _ _ _ _; rw [hn]; simpa using Heap.get?_push_size _ rfl), F.push _, (fun p hp => ⟨Heap.get?_push_of_some _ (N p hp).1, (N p hp).2⟩), hj, ?_, ?_⟩
  · intro hm
    exact absurd F.ns.lt ((List.mem_singleton.mp hm) ▸ Nat.lt_irrefl _)
  · intro b hb
    rw [List.mem_singleton.mp hb]
    exact hI0
  · intro p hp hI
    exact absurd (Heap.lt_size (N p hp).1) ((List.mem_singleton.mp hI) ▸ Nat.lt_irrefl _)
  · rintro i v m₁ news₁ s₁ own ⟨hh', tk', rfl⟩ hin ⟨_, t, rfl⟩ hJ hoff hown hat hall st F₁ N₁
    obtain ⟨oI, hoI⟩ : ∃ o, hh'.get? s.heap.objs.size = some o := ⟨_, st⟩
    have mI : (s.heap.objs.size, oI) ∈ own := hall _ (by simp) hI0 _ hoI
    have hcase : ∀ p ∈ own, p = (s.heap.objs.size, oI) := by
      intro p hp
      have hp2 := hat p hp
      have e' : p.1 = s.heap.objs.size := List.mem_singleton.mp (hown p hp)
      rw [e'] at hp2
      have := Option.some.inj (hoI.symm.trans hp2)
      exact Prod.ext e' this.symm
    have N₂ : News h₀ env.locals hh' ((s.heap.objs.size, oI) :: news₁) := fun p hp => N₁ p ((List.mem_cons.mp hp).elim (fun e => e ▸ List.mem_append_left _ mI) fun h => List.mem_append_right _ h)
    simp only [Int.mul_one] at F₁
    refine wpAny_mono (turn i t m₁ news₁ s.heap.objs.size oI hh' tk' hin hJ (fun q hq e => hoff q hq (by rw [e]; exact .head _)) F₁ N₂) (fun f s₂ p => ?_) fun _ _ e => e
    have fin : LEnd h₀ env.locals (J (i + 1)) [(s.heap.objs.size, oI)] s.heap.objs.size { s with heap := hh', toks := tk' } s₂ → LoopStepU h₀ env.locals [s.heap.objs.size] own (J (i + 1)) { s with heap := hh', toks := tk' } .next s₂ := by
      rintro ⟨h', tk, m', news', e, F', N', hI, hJ'⟩
      refine ⟨rfl, h', tk, m', news', e, F', fun p hp => ?_, fun p hp hq => hI p hp (List.mem_singleton.mp hq), hJ'⟩
      rcases List.mem_append.mp hp with hp | hp
      · rw [hcase p hp]; exact N' _ (.head _)
      · exact N' _ (.tail _ hp)
    cases f with
    | ret v => exact .ret p
    | brk => exact .brk p
    | next => exact .next (fin p)
    | cont => exact .cont (fin p)
  · rintro h' tk m' news' F' N' _ hJ
    exact done m' news' h' tk hJ F' N'
end

inductive Cx where
  | top
  | l (c : Cx) (i : Nat) (r : Tr)
  | r (l : Tr) (i : Nat) (c : Cx)
noncomputable def plug : Cx → Tr → Tr
  | .top, S => S
  | .l c i r, S => plug c (.node S i r)
  | .r l i c, S => plug c (.node l i S)
noncomputable def slotI : Cx → Nat
  | .top => 0
  | .l _ i _ => i
  | .r _ i _ => i
noncomputable def slotF : Cx → Fd
  | .top => .R
  | .l _ _ _ => .L
  | .r _ _ _ => .R
theorem isT_plug {g : List Nd} {μ : Nat → Mu} {n0 : Nd} (e0 : g[0]? = some n0) : ∀ {c : Cx} {S : Tr}, IsT g μ (μ 0).r (plug c S) → IsT g μ ((μ (slotI c)).get (slotF c)) S ∧ ∃ n, g[slotI c]? = some n
  | .top, S, h => ⟨h, n0, e0⟩
  | .l c i r, S, h => by
    obtain ⟨h1, _⟩ := isT_plug e0 (c := c) (S := .node S i r) h
    generalize (μ (slotI c)).get (slotF c) = v at h1
    cases h1 with
    | node e hl hr => exact ⟨hl, _, e⟩
  | .r l i c, S, h => by
    obtain ⟨h1, _⟩ := isT_plug e0 (c := c) (S := .node l i S) h
    generalize (μ (slotI c)).get (slotF c) = v at h1
    cases h1 with
    | node e hl hr => exact ⟨hr, _, e⟩
noncomputable def Tr.isNil : Tr → Bool
  | .nil => true
  | .node _ _ _ => false
noncomputable def Tr.child : Tr → Fd → Tr
  | .nil, _ => .nil
  | .node l _ _, .L => l
  | .node _ _ r, _ => r
theorem Tr.not_nil {T : Tr} (h : T.isNil = false) : ∃ l i r, T = .node l i r := by cases T with | nil => cases h | node l i r => exact ⟨l, i, r, rfl⟩
noncomputable def sdOf (k : Int) : Fd := if k = 0 then .L else .R
theorem sdOf_ne (k : Int) : sdOf k ≠ .K := by unfold sdOf; split <;> exact Fd.noConfusion
section
variable {w : World} {A : Around} {E : Value → Shared → Prop} {s : Shared} {h₀ : Heap} {L D : Addr} {m : Str → Option Value} {news : Led} {Q : Value → Shared → Prop} {g : List Nd} {μ : Nat → Mu} {v : Value} {T : Tr} {t : Nat} {prog : Program}
theorem ne_isT {K : Frag} (X : K.In s.heap) (N : News h₀ L s.heap news) (hs : ∀ p ∈ nl w.params 0 g μ, p ∈ news) (h : IsT g μ v T) (hsub : subIn K (.ref 225) (.type "object") = some true) (hst : subIn K (.type "str") (.ref 225) = some false)
    (he : findIn K (.ref 225) "__eq__" = some (some (.builtin "object.__eq__"))) (hn : findIn K (.ref 225) "__ne__" = some (some (.builtin "object.__ne__"))) (hu : A.units + 1 < cLine) (hq : Q (.bool (!T.isNil)) s) :
    wpAny (model prog w) A (compareOp .NotEq v (.str "" t)) Q E s := by
  cases h with
  | nil => exact ne_str hq
  | node e _ _ => exact ne_inst_str X (inst_of N hs e) rfl hsub hst he hn hu hq
theorem item_LR {value slice : PySem.Expr} {k : Int} {u t1 t2 n : Nat} (N : News h₀ L s.heap news) (hm : (D, listOf [.str "LEFT" t1, .str "RIGHT" t2].toArray n) ∈ news) (h0 : 0 ≤ k) (h2 : k < 2) (h : ∀ t, Q (.str (sdOf k).s t) s)
    (hs : subscripted slice false (.ref D) (.int k u) = operate [.ref D, .int k u] (getItem (.ref D) (.int k u)) := by with_unfolding_all rfl) :
    wpAny (model prog w) A (subscriptTail value slice (.ref D) (.int k u)) Q E s := by
  have hl := listAt N hm
  have hk : k = 0 ∨ k = 1 := by omega
  rcases hk with rfl | rfl
  · exact tail_any hl.typeIs slot_list_getitem.lookup (wpAny_getItem_list hl (by omega) (by omega) rfl (h t1)) hs
  · exact tail_any hl.typeIs slot_list_getitem.lookup (wpAny_getItem_list hl (by omega) (by omega) rfl (h t2)) hs
end
noncomputable def LoopHere (P : Prop) : Prop := P
theorem loop_here {P : Prop} (h : LoopHere P) : P := h
theorem loop_go {P : Prop} (h : P) : LoopHere P := h
noncomputable def ChildsT (g : List Nd) (μ : Nat → Mu) (j : Nat) (S : Tr) : Prop := ∀ sd : Fd, sd ≠ .K → IsT g μ ((μ j).get sd) (S.child sd)
theorem ChildsT.use {g : List Nd} {μ : Nat → Mu} {j : Nat} {S : Tr} {sd : Fd} (h : ChildsT g μ j S) (hne : sd ≠ .K) : IsT g μ ((μ j).get sd) (S.child sd) := h sd hne
theorem childsT {g : List Nd} {μ : Nat → Mu} {j : Nat} {l r : Tr} (hl : IsT g μ (μ j).l l) (hr : IsT g μ (μ j).r r) : ChildsT g μ j (.node l j r) := fun sd hne => by
  cases sd with
  | L => exact hl
  | K => exact absurd rfl hne
  | R => exact hr
theorem fmod_two {k : Int} (h : 0 ≤ k) : 0 ≤ k.fmod 2 ∧ k.fmod 2 < 2 := by rw [Int.fmod_eq_emod_of_nonneg _ (by decide)]; omega
theorem range_small3 {b : Int} (h0 : 0 ≤ b) (h1 : b < 1000) : Builtin.Range.small 0 b 1 = true := by
  have e : Builtin.Range.rangeSize 0 b 1 = b := by rw [rangeSize_nat]; omega
  have d (x : Int) (a1 : -1000 ≤ x) (a2 : x ≤ 1000) : Builtin.Range.rangeFitsLong x = true := by
    unfold Builtin.Range.rangeFitsLong
    simp only [Bool.and_eq_true, decide_eq_true_eq]
    omega
  unfold Builtin.Range.small
  rw [e, d 0 (by omega) (by omega), d b (by omega) (by omega), d 1 (by omega) (by omega), if_pos (by decide), d (b + (1 - 1)) (by omega) (by omega), Bool.or_true]
  rfl
theorem down (c : Cx) (l : Tr) (j : Nat) (r : Tr) {sd : Fd} (hne : sd ≠ .K) : ∃ c', slotI c' = j ∧ slotF c' = sd ∧ plug c' ((Tr.node l j r).child sd) = plug c (.node l j r) := by
  cases sd with
  | L => exact ⟨.l c j r, rfl, rfl, rfl⟩
  | K => exact absurd rfl hne
  | R => exact ⟨.r l j c, rfl, rfl, rfl⟩
theorem fdiv_two {k : Int} (h : 0 ≤ k) (h1 : k ≤ 100) : 0 ≤ k.fdiv 2 ∧ k.fdiv 2 ≤ 100 := by rw [Int.fdiv_eq_ediv_of_nonneg _ (by decide)]; omega
section
variable {w : World} {A : Around} {E : Value → Shared → Prop} {s : Shared} {h₀ : Heap} {L D : Addr} {news : Led} {Q : Value → Shared → Prop} {g : List Nd} {μ : Nat → Mu} {v : Value} {T : Tr} {t : Nat}
theorem ne_isTA (hq : Q (.bool (!T.isNil)) s) (X : (Mine.hd.heap_39 w.params).In s.heap := by k_in) (N : News h₀ L s.heap news := by k_asm) (h : IsT g μ v T := by first | assumption | exact ChildsT.use (by assumption) (sdOf_ne _)) (hs : ∀ p ∈ nl w.params 0 g μ, p ∈ news := by ktr_rel)
    (a1 : subIn (Mine.hd.heap_39 w.params) (.ref 225) (.type "object") = some true := by k_is) (a2 : subIn (Mine.hd.heap_39 w.params) (.type "str") (.ref 225) = some false := by k_is) (a3 : findIn (Mine.hd.heap_39 w.params) (.ref 225) "__eq__" = some (some (.builtin "object.__eq__")) := by k_is) (a4 : findIn (Mine.hd.heap_39 w.params) (.ref 225) "__ne__" = some (some (.builtin "object.__ne__")) := by k_is) (u : A.units + 1 < cLine := by ktr_units) :
    wpAny (model PySem.Challenge.rw_sj0191_01.row.prog w) A (compareOp .NotEq v (.str "" t)) Q E s := ne_isT X N hs h a1 a2 a3 a4 u hq
end

local macro_rules | `(tactic| walk_at "pyIter ref") => `(tactic| (k_here; refine loop_here ?_))
local macro_rules | `(tactic| walk_at "eval Name") => `(tactic| (k_here; k_dflt (refine' ld ?k1 ?k2 ?_; (case k1 => k_asm); (case k2 => assumption); k_whole)))
local macro_rules | `(tactic| walk_at "compareOp NotEq") => `(tactic| (k_here; k_dflt (refine ne_isTA ?_; k_whole)))
local macro_rules | `(tactic| walk_at "subscriptTail") => `(tactic| (k_here; (with_reducible show wpAny _ _ (subscriptTail _ _ (Value.ref _) (Value.int (Int.fmod _ _) _)) _ _ _); k_dflt (refine item_LR (by k_asm) (by k_mem) (fmod_two (by assumption)).1 (fmod_two (by assumption)).2 ?_; k_whole); intro tF))

theorem isT_node {g : List Nd} {μ : Nat → Mu} {v : Value} {l r : Tr} {j : Nat} (h : IsT g μ v (.node l j r)) : ∃ n, v = .ref n.x ∧ g[j]? = some n ∧ IsT g μ (μ j).l l ∧ IsT g μ (μ j).r r := by
  cases h with
  | node e hl hr => exact ⟨_, rfl, e, hl, hr⟩
theorem place_call {w : World} {g : List Nd} {μ : Nat → Mu} {n0 : Nd} {T : Tr} {k : Int} {tk : Nat} {news : Led} (e0 : g[0]? = some n0) (hT : IsT g μ (μ 0).r T) (hn : T.isNil = false) (hs : ∀ p ∈ nl w.params 0 g μ, p ∈ news) (k0 : 0 ≤ k) (k1 : k < 12) :
    Call w 388 [.ref n0.x, .int k tk] 8 news (fun r nw => ∃ D c S n t, r = .ref D ∧ nw = (D, { cls := .type "tuple", data := .seq #[.ref n.x, .str (slotF c).s t] }) :: news ∧ (∀ p ∈ news, p.1 < D) ∧ plug c S = T ∧ S.isNil = false ∧ g[slotI c]? = some n) := by
  w_top off
  unfold Call
  k_fill
  intro mean mg mb dp un gd cn cs a ccd cl outer A₀ base h₀ L m s Q E B F X N T' hk hd hu ret
  refine wpAny_call ?_
  k_dflt ktr_enter
  k_steps
  apply loop_go
  have hm3 : 0 ≤ k.fmod 3 ∧ k.fmod 3 < 3 := by rw [Int.fmod_eq_emod_of_nonneg _ (by decide)]; omega
  refine for_range (news := news) (n := (k.fmod 3).toNat) (fun _ m nx => nx = news ∧ ∃ c S n tf lv tl, g[slotI c]? = some n ∧ plug c S = T ∧ S.isNil = false ∧ m (Str.ofString "owner") = some (.ref n.x) ∧ m (Str.ofString "field") = some (.str (slotF c).s tf) ∧ m (Str.ofString "left") = some (.int lv tl) ∧ 0 ≤ lv ∧ lv ≤ 100)
    rfl (by assumption) ?small ?hn (by k_asm) (news_sub (by k_asm) (by ktr_rel)) ?hj ?turn ?done
  case small =>
    exact range_small3 hm3.1 (by omega)
  case hn => rw [rangeSize_nat]; simp
  case hj => exact ⟨rfl, .top, T, n0, _, _, _, e0, rfl, hn, rfl, rfl, rfl, by rw [Int.fdiv_eq_ediv_of_nonneg _ (by decide)]; omega, by rw [Int.fdiv_eq_ediv_of_nonneg _ (by decide)]; omega⟩
  case done =>
    rintro m₁ nx h tk ⟨rfl, c, S, n, tf, lv, tl, h1, h2, h3, h4, h5, h6, h7, h8⟩ F1 N1
    k_steps
    exact ret _ _ _ _ ⟨_, c, S, n, tf, rfl, rfl, by ktr_rel, h2, h3, h1⟩ (by k_asm) (news_sub (by k_asm) (sub_both (.head _) (by ktr_rel)))
  case turn =>
    rintro i t m₁ nx I oI h tk hi ⟨rfl, c, S, n, tf, lv, tl, h1, h2, h3, h4, h5, h6, h7, h8⟩ hI F1 N1
    obtain ⟨l, j, r, rfl⟩ := Tr.not_nil h3
    obtain ⟨nS, hval, eS, hl, hr⟩ := isT_node (isT_plug (c := c) (S := .node l j r) e0 (h2.symm ▸ hT)).1
    have hch := childsT hl hr
    k_steps
    · refine' LEnd.intro ?F ?N hI ?J
      case F => k_asm
      case N => exact news_sub (by k_asm) (sub_both (by k_mem) (by ktr_rel))
      case J => exact ⟨rfl, c, _, n, _, _, _, h1, h2, rfl, h4, h5, rfl, fdiv_two h7 h8⟩
    · obtain ⟨c', a1, a2, a3⟩ := down c l j r (sdOf_ne (lv.fmod 2))
      refine' LEnd.intro ?F ?N hI ?J
      case F => k_asm
      case N => exact news_sub (by k_asm) (sub_both (by k_mem) (by ktr_rel))
      case J => exact ⟨rfl, c', _, nS, _, _, _, by rw [a1]; exact eS, a3.trans h2, by assumption, rfl, by rw [a2]; rfl, rfl, fdiv_two h7 h8⟩

theorem pick_to (l : List Value) (k : Nat) : (slicePick l.toArray none (some (k : Int)) none).toList = l.take k := by
  rw [kms_pick_eq]
  simp only [kms_pick, kms_lo, kms_hi]
  rw [if_neg (show ¬ ((k : Int) < 0) by omega)]
  simp
theorem pick_from (l : List Value) (k : Nat) : (slicePick l.toArray (some (k : Int)) none none).toList = l.drop k := by
  rw [kms_pick_eq]
  simp only [kms_pick, kms_lo, kms_hi]
  rw [if_neg (show ¬ ((k : Int) < 0) by omega)]
  simp only [Int.toNat_natCast]
  by_cases h : k ≤ l.length
  · rw [show min k l.toArray.toList.length = k from Nat.min_eq_left h, List.take_of_length_le (by simp)]
  · rw [show min k l.toArray.toList.length = l.length from Nat.min_eq_right (by show l.length ≤ k; omega), List.drop_of_length_le (l := l) (by omega)]; simp; omega
section
variable {prog : Program} {w : World} {A : Around} {E : Value → Shared → Prop} {s : Shared} {h₀ : Heap} {L l : Addr} {m : Str → Option Value} {news : Led} {value slice : PySem.Expr} {xs : List Value} {n t : Nat} {Q : Value → Shared → Prop} {b : Int}
theorem slice_to (F : Fr h₀ L s.heap m) (N : News h₀ L s.heap news) (hm : (l, listOf xs.toArray n) ∈ news) (h0 : 0 ≤ b) (hz : xs.length ≤ sizeLine)
    (h : ∀ D h', Fr h₀ L h' m → News h₀ L h' ((D, listOf (xs.take b.toNat).toArray 0) :: news) → (∀ p ∈ news, p.1 < D) → Q (.ref D) { s with heap := h' })
    (hs : subscripted slice false (.ref l) (.ref s.heap.objs.size) = operate [.ref s.heap.objs.size, .ref l] (getItem (.ref l) (.ref s.heap.objs.size)) := by with_unfolding_all rfl) (ht : ∀ r, letTemporaryGo value (.ref l) r = pure () := by intro _; with_unfolding_all rfl) :
    wpAny (model prog w) A (subscriptTail value slice (.ref l) (.ref s.heap.objs.size)) Q E { s with heap := s.heap.push { cls := .type "slice", data := .fields #[.none, .int b t, .none] } } := by
  obtain ⟨k, rfl⟩ := Int.eq_ofNat_of_zero_le h0
  exact kmk_slice_lit F N (listAt N hm) .none (.int _ _) (pick_to xs k) (by simpa using h) hs ht (by simpa using hz)
theorem slice_from (F : Fr h₀ L s.heap m) (N : News h₀ L s.heap news) (hm : (l, listOf xs.toArray n) ∈ news) (h0 : 0 ≤ b) (hz : xs.length ≤ sizeLine)
    (h : ∀ D h', Fr h₀ L h' m → News h₀ L h' ((D, listOf (xs.drop b.toNat).toArray 0) :: news) → (∀ p ∈ news, p.1 < D) → Q (.ref D) { s with heap := h' })
    (hs : subscripted slice false (.ref l) (.ref s.heap.objs.size) = operate [.ref s.heap.objs.size, .ref l] (getItem (.ref l) (.ref s.heap.objs.size)) := by with_unfolding_all rfl) (ht : ∀ r, letTemporaryGo value (.ref l) r = pure () := by intro _; with_unfolding_all rfl) :
    wpAny (model prog w) A (subscriptTail value slice (.ref l) (.ref s.heap.objs.size)) Q E { s with heap := s.heap.push { cls := .type "slice", data := .fields #[.int b t, .none, .none] } } := by
  obtain ⟨k, rfl⟩ := Int.eq_ofNat_of_zero_le h0
  exact kmk_slice_lit F N (listAt N hm) (.int _ _) .none (pick_from xs k) (by simpa using h) hs ht (by simpa using hz)
end
/-- the values of a thing made of a list -/
noncomputable def pad (vs : List Value) (e : Value) : List Value := (vs ++ [e, e, e]).take 3
section
variable {prog : Program} {w : World} {A : Around} {E : Value → Shared → Prop} {s : Shared} {h₀ : Heap} {L l : Addr} {m : Str → Option Value} {news : Led} {n t : Nat} {Q : Value → Shared → Prop} {v : Value}
theorem mul3 (F : Fr h₀ L s.heap m) (N : News h₀ L s.heap news) (hm : (l, listOf [v].toArray n) ∈ news)
    (h : ∀ D h', Fr h₀ L h' m → News h₀ L h' ((D, listOf [v, v, v].toArray 0) :: news) → (∀ p ∈ news, p.1 < D) → Q (.ref D) { s with heap := h' }) : wpAny (model prog w) A (binaryOp .Mult (.ref l) (.int 3 t)) Q E s :=
  KMa.mul F N (listAt N hm) (by decide) (by decide) (by simp) rfl h
end
section
variable {prog : Program} {w : World} {A : Around} {E : Value → Shared → Prop} {s : Shared} {h₀ : Heap} {L l : Addr} {m : Str → Option Value} {news : Led} {value slice : PySem.Expr} {xs : List Value} {n t : Nat} {Q : Value → Shared → Prop} {b : Int}
theorem slice_toA (h : ∀ D h', Fr h₀ L h' m → News h₀ L h' ((D, listOf (xs.take b.toNat).toArray 0) :: news) → (∀ p ∈ news, p.1 < D) → Q (.ref D) { s with heap := h' }) (F : Fr h₀ L s.heap m := by k_asm) (N : News h₀ L s.heap news := by k_asm) (hm : (l, listOf xs.toArray n) ∈ news := by k_mem)
    (h0 : 0 ≤ b := by first | assumption | decide) (hz : xs.length ≤ sizeLine := by first | assumption | (rw [List.length_append]; assumption))
    (hs : subscripted slice false (.ref l) (.ref s.heap.objs.size) = operate [.ref s.heap.objs.size, .ref l] (getItem (.ref l) (.ref s.heap.objs.size)) := by with_unfolding_all rfl) (ht : ∀ r, letTemporaryGo value (.ref l) r = pure () := by intro _; with_unfolding_all rfl) :
    wpAny (model prog w) A (subscriptTail value slice (.ref l) (.ref s.heap.objs.size)) Q E { s with heap := s.heap.push { cls := .type "slice", data := .fields #[.none, .int b t, .none] } } := slice_to F N hm h0 hz h hs ht
theorem slice_fromA (h : ∀ D h', Fr h₀ L h' m → News h₀ L h' ((D, listOf (xs.drop b.toNat).toArray 0) :: news) → (∀ p ∈ news, p.1 < D) → Q (.ref D) { s with heap := h' }) (F : Fr h₀ L s.heap m := by k_asm) (N : News h₀ L s.heap news := by k_asm) (hm : (l, listOf xs.toArray n) ∈ news := by k_mem)
    (h0 : 0 ≤ b := by first | assumption | decide) (hz : xs.length ≤ sizeLine := by first | assumption | (rw [List.length_append]; assumption))
    (hs : subscripted slice false (.ref l) (.ref s.heap.objs.size) = operate [.ref s.heap.objs.size, .ref l] (getItem (.ref l) (.ref s.heap.objs.size)) := by with_unfolding_all rfl) (ht : ∀ r, letTemporaryGo value (.ref l) r = pure () := by intro _; with_unfolding_all rfl) :
    wpAny (model prog w) A (subscriptTail value slice (.ref l) (.ref s.heap.objs.size)) Q E { s with heap := s.heap.push { cls := .type "slice", data := .fields #[.int b t, .none, .none] } } := slice_from F N hm h0 hz h hs ht
theorem mul3A {v : Value} (h : ∀ D h', Fr h₀ L h' m → News h₀ L h' ((D, listOf [v, v, v].toArray 0) :: news) → (∀ p ∈ news, p.1 < D) → Q (.ref D) { s with heap := h' }) (F : Fr h₀ L s.heap m := by k_asm) (N : News h₀ L s.heap news := by k_asm) (hm : (l, listOf [v].toArray n) ∈ news := by k_mem) :
    wpAny (model prog w) A (binaryOp .Mult (.ref l) (.int 3 t)) Q E s := mul3 F N hm h
end

local macro_rules | `(tactic| walk_at "binaryOp Mult ref int") => `(tactic| (k_here; k_dflt (refine mul3A ?_; k_whole); intro D' h' F' N' l1; (try k_lt l1)))
local macro_rules | `(tactic| walk_at "subscriptTail Name Slice ref ref") => `(tactic| (k_here; k_dflt (first | refine slice_toA ?_ | refine slice_fromA ?_); k_whole; intro D' h' F' N' l1; (try k_lt l1)))

noncomputable def DMade (P : Params) (vs : List Value) (fx : Addr) (num : Int) (l1 l2 l3 n2 : Nat) (news : Led) (r : Value) (nw : Led) : Prop :=
  ∃ (n : Nd) (te mk : Nat), r = .ref n.x ∧ n.num = num ∧ n.fx = fx ∧ n.l1 = l1 ∧ n.l2 = l2 ∧ n.l3 = l3 ∧ n.nf = n2 ∧ n.vx < n.dx ∧ n.dx < n.x ∧ AllLt n.vx news ∧
      nw = (n.x, instObj 225 n.dx) :: (n.dx, ndDict P n (.int 0 mk)) :: (n.vx, listOf (pad vs (.str "" te)).toArray n.nv) :: news
theorem dmade_end {P : Params} {h₀ h : Heap} {L : Addr} {vs : List Value} {x dx fx vx : Addr} {num : Int} {tw wt tn tm tf tv tk te mk l1 l2 l3 n2 : Nat} {a b c : Addr × Obj} {news : Led} {A B C A' B' C' : Prop}
    (N : News h₀ L h ((x, instObj 225 dx) :: (dx, dictOf [ent P "word" tw (.str "NODE" wt), ent P "number" tn (.int num tk), ent P "mark" tm (.int 0 mk), ent P "fields" tf (.ref fx), ent P "values" tv (.ref vx)] 5) ::
      (vx, listOf ((vs ++ [Value.str "" te, Value.str "" te, Value.str "" te]).take (Int.toNat 3)).toArray 0) :: a :: b :: c :: news))
    (e1 : vx < dx ∧ A ∧ B ∧ C ∧ AllLt dx news) (e2 : dx < x) (e3 : A' ∧ B' ∧ C' ∧ AllLt vx news) :
    ∃ nw, DMade P vs fx num l1 l2 l3 n2 news (.ref x) nw ∧ News h₀ L h nw :=
  ⟨_, ⟨⟨x, dx, fx, vx, num, tw, tn, tm, tf, tv, wt, tk, l1, l2, l3, n2, 0⟩, te, mk, rfl, rfl, rfl, rfl, rfl, rfl, rfl, e1.1, e2, e3.2.2.2, rfl⟩,
    news_sub N (sub_both (.head _) (sub_both (.tail _ (.head _)) (sub_both (.tail _ (.tail _ (.head _))) fun _ hp => .tail _ (.tail _ (.tail _ (.tail _ (.tail _ (.tail _ hp))))))))⟩
theorem dmade_call {w : World} {vs : List Value} {vx fx : Addr} {n1 n2 : Nat} {num : Int} {tk wt l1 l2 l3 : Nat} {news : Led} (hv : (vx, listOf vs.toArray n1) ∈ news) (hf : (fx, listOf (fsOf l1 l2 l3).toArray n2) ∈ news) (hl : vs.length ≤ 3) :
    Call w 262 [.int num tk, .str "NODE" wt, .ref fx, .ref vx] 8 news (DMade w.params vs fx num l1 l2 l3 n2 news) := by
  w_top off
  unfold Call
  k_fill
  intro mean mg mb dp un gd cn cs a ccd cl outer A₀ base h₀ L m s Q E B F X N T' hk hd hu ret
  have hz1 : vs.length + 3 ≤ sizeLine := by rw [sizeLine_eq]; omega
  refine wpAny_call ?_
  k_dflt ktr_enter
  k_steps
  obtain ⟨nw, hp, N'⟩ := dmade_end (l1 := l1) (l2 := l2) (l3 := l3) (n2 := n2) (by k_asm) (by assumption) (by assumption) (by assumption)
  exact ret _ nw _ _ hp (by k_asm) N'

/-! the world: an object whose fields are told by facts alone -/
structure Wo where
  x : Addr
  d : Addr
  hl : Addr
  es : List DictEntry
  n : Nat
  hn : Nat
  made : Int
  mt : Nat
  hs : List Value
  st : Addr
  wn : Addr
  td : Addr
  rest : Led
noncomputable abbrev wl (W : Wo) : Led := (W.x, instObj 280 W.d) :: (W.d, dictOf W.es W.n) :: (W.hl, listOf W.hs.toArray W.hn) :: W.rest
structure WIs (W : Wo) : Prop where
  made : getL "made" W.es = some (some (.int W.made W.mt))
  holders : getL "holders" W.es = some (some (.ref W.hl))
  store : getL "store" W.es = some (some (.ref W.st))
  wnames : getL "write_names" W.es = some (some (.ref W.wn))
  traced : getL "traced" W.es = some (some (.ref W.td))
  len : W.es.length ≤ 100
noncomputable def ND (l : Led) : Prop := (l.map (·.1)).Nodup
inductive Spl (A : Led) : Led → Led → Prop
  | here : Spl A A []
  | app {pre : Led} : Spl A (pre ++ A) pre
  | cons {p : Addr × Obj} {l pre : Led} : Spl A l pre → Spl A (p :: l) (p :: pre)
theorem Spl.eq {A l pre : Led} (h : Spl A l pre) : l = pre ++ A := by
  induction h with
  | here => rfl
  | app => rfl
  | cons _ ih => rw [ih]; rfl
theorem some_of {k : Str} {es : List DictEntry} {v : Value} (h : getL k es = some (some v)) : (getL k es).isSome = true := by rw [h]; rfl
theorem getL_iff {k : Str} {es : List DictEntry} {u : Value} : getL k es = some (some u) ↔ ∃ e, es.find? (fun x => x.key.isStr k) = some e ∧ e.val = u := by
  unfold getL
  cases hf : es.find? (fun x => x.key.isStr k) with
  | none =>
    constructor
    · intro h
      simp only at h
      by_cases q : (es.any fun x => x.refKey) = true
      · rw [if_pos q] at h; cases h
      · rw [if_neg q] at h; cases h
    · rintro ⟨_, h, _⟩; cases h
  | some e => simp
theorem getL_put_same {k : Str} {hsh : Int} {t : Nat} {v u : Value} {es : List DictEntry} (h : getL k es = some (some u)) : getL k (putL k hsh (.str k t) v es) = some (some v) := by
  obtain ⟨e, h', -⟩ := getL_iff.mp h
  refine getL_iff.mpr ?_
  clear h
  have h := h'
  clear h'
  induction es with
  | nil => cases h
  | cons a r ih =>
    unfold putL
    rw [List.find?_cons] at h
    cases ha : a.key.isStr k with
    | true => rw [if_pos rfl, List.find?_cons]; simp [ha]
    | false =>
      rw [if_neg (by decide), List.find?_cons]
      simp only [ha] at h ⊢
      exact ih h
theorem isStr_ne {k k' : Str} (h : k ≠ k') {e : Value} (a : e.isStr k = true) : e.isStr k' = false := by
  cases e <;> simp [Value.isStr] at a ⊢
  exact fun b => h (a.symm.trans b)
theorem find_put_ne {k k' : Str} (hne : k ≠ k') {hsh : Int} {t : Nat} {v u : Value} : ∀ {es : List DictEntry}, (∃ e, es.find? (fun x => x.key.isStr k') = some e ∧ e.val = u) → ∃ e, (putL k hsh (.str k t) v es).find? (fun x => x.key.isStr k') = some e ∧ e.val = u := by
  intro es
  induction es with
  | nil => rintro ⟨_, h, _⟩; cases h
  | cons a r ih =>
    rintro ⟨e, h, hv⟩
    unfold putL
    rw [List.find?_cons] at h
    cases ha : a.key.isStr k with
    | true =>
      have h' := isStr_ne hne ha
      rw [if_pos rfl, List.find?_cons]
      simp only [h'] at h ⊢
      exact ⟨e, h, hv⟩
    | false =>
      rw [if_neg (by decide), List.find?_cons]
      cases ha' : a.key.isStr k' with
      | true => simp only [ha'] at h ⊢; exact ⟨e, h, hv⟩
      | false => simp only [ha'] at h ⊢; exact ih ⟨e, h, hv⟩
theorem getL_put_ne {k k' : Str} (hne : k ≠ k') {hsh : Int} {t : Nat} {v u : Value} {es : List DictEntry} (h : getL k' es = some (some u)) : getL k' (putL k hsh (.str k t) v es) = some (some u) :=
  getL_iff.mpr (find_put_ne hne (getL_iff.mp h))
theorem putL_len {k : Str} {hsh : Int} {kv v : Value} : ∀ {es : List DictEntry}, (putL k hsh kv v es).length ≤ es.length + 1
  | [] => Nat.le_refl _
  | e :: r => by
    unfold putL
    split
    · simp
    · have := putL_len (k := k) (hsh := hsh) (kv := kv) (v := v) (es := r); simp only [List.length_cons]; omega
theorem putL_len_same {k : Str} {hsh : Int} {kv v u : Value} {es : List DictEntry} (h : getL k es = some (some u)) : (putL k hsh kv v es).length = es.length := by
  obtain ⟨e, h', -⟩ := getL_iff.mp h
  clear h
  have h := h'
  clear h'
  induction es with
  | nil => cases h
  | cons a r ih =>
    unfold putL
    rw [List.find?_cons] at h
    cases ha : a.key.isStr k with
    | true => rw [if_pos rfl]; rfl
    | false =>
      rw [if_neg (by decide)]
      simp only [ha] at h
      rw [List.length_cons, ih h]; rfl
theorem upd_at {d : Addr} {o o' : Obj} : ∀ {pre post : Led}, (∀ p ∈ pre, p.1 ≠ d) → (∀ p ∈ post, p.1 ≠ d) → Upd d o o' (pre ++ (d, o) :: post) (pre ++ (d, o') :: post)
  | [], _, _, h => .head h
  | _ :: _, _, a, h => .tail (a _ (.head _)) (upd_at (fun p hp => a p (.tail _ hp)) h)
theorem ND.cut {d : Addr} {o : Obj} {pre post : Led} (h : ND (pre ++ (d, o) :: post)) : (∀ p ∈ pre, p.1 ≠ d) ∧ ∀ p ∈ post, p.1 ≠ d := by
  unfold ND at h
  rw [List.map_append, List.map_cons] at h
  obtain ⟨_, h2, h3⟩ := List.nodup_append.mp h
  refine ⟨fun p hp => h3 _ (List.mem_map_of_mem hp) _ (.head _), fun p hp e => ?_⟩
  exact (List.nodup_cons.mp h2).1 (by have := List.mem_map_of_mem (f := (·.1)) hp; rw [e] at this; exact this)
noncomputable def Wo.putMade (W : Wo) (es : List DictEntry) (n : Nat) (m : Int) (t : Nat) : Wo := { W with es := es, n := n, made := m, mt := t }
noncomputable def Wo.putHs (W : Wo) (hs : List Value) (n : Nat) : Wo := { W with hs := hs, hn := n }
theorem upd_d {W : Wo} {pre R : Led} (es : List DictEntry) (n : Nat) (m : Int) (t : Nat) (h : ND (pre ++ (wl W ++ R))) : Upd W.d (dictOf W.es W.n) (dictOf es n) (pre ++ (wl W ++ R)) (pre ++ (wl (W.putMade es n m t) ++ R)) := by
  have h1 : ND ((pre ++ [(W.x, instObj 280 W.d)]) ++ (W.d, dictOf W.es W.n) :: ((W.hl, listOf W.hs.toArray W.hn) :: W.rest ++ R)) := by simpa using h
  have := upd_at (o := dictOf W.es W.n) (o' := dictOf es n) h1.cut.1 h1.cut.2
  simpa [Wo.putMade] using this
theorem upd_h {W : Wo} {pre R : Led} (hs : List Value) (n : Nat) (h : ND (pre ++ (wl W ++ R))) : Upd W.hl (listOf W.hs.toArray W.hn) (listOf hs.toArray n) (pre ++ (wl W ++ R)) (pre ++ (wl (W.putHs hs n) ++ R)) := by
  have h1 : ND ((pre ++ [(W.x, instObj 280 W.d), (W.d, dictOf W.es W.n)]) ++ (W.hl, listOf W.hs.toArray W.hn) :: (W.rest ++ R)) := by simpa using h
  have := upd_at (o := listOf W.hs.toArray W.hn) (o' := listOf hs.toArray n) h1.cut.1 h1.cut.2
  simpa [Wo.putHs] using this
theorem WIs.putMade {W : Wo} (h : WIs W) {hsh : Int} {kt n : Nat} {m : Int} {t : Nat} : WIs (W.putMade (putL "made" hsh (.str "made" kt) (.int m t) W.es) n m t) :=
  ⟨getL_put_same h.made, getL_put_ne (by decide) h.holders, getL_put_ne (by decide) h.store, getL_put_ne (by decide) h.wnames, getL_put_ne (by decide) h.traced,
    by show (putL _ _ _ _ _).length ≤ 100; rw [putL_len_same h.made]; exact h.len⟩
theorem WIs.putHs {W : Wo} (h : WIs W) {hs : List Value} {n : Nat} : WIs (W.putHs hs n) := ⟨h.made, h.holders, h.store, h.wnames, h.traced, h.len⟩
theorem W_mem_x {W : Wo} {pre R : Led} : (W.x, instObj 280 W.d) ∈ pre ++ (wl W ++ R) := List.mem_append.mpr (.inr (.head _))
theorem W_mem_d {W : Wo} {pre R : Led} : (W.d, dictOf W.es W.n) ∈ pre ++ (wl W ++ R) := List.mem_append.mpr (.inr (.tail _ (.head _)))
theorem W_mem_h {W : Wo} {pre R : Led} : (W.hl, listOf W.hs.toArray W.hn) ∈ pre ++ (wl W ++ R) := List.mem_append.mpr (.inr (.tail _ (.tail _ (.head _))))
theorem len_put {W : Wo} (h : WIs W) {k : Str} {hsh : Int} {kv v : Value} : (putL k hsh kv v W.es).length ≤ 1000 := by
  have := putL_len (k := k) (hsh := hsh) (kv := kv) (v := v) (es := W.es)
  have := h.len
  omega
theorem ND.same {l l' : Led} (h : ND l) (e : l.map (·.1) = l'.map (·.1)) : ND l' := by unfold ND at *; rw [← e]; exact h
section
variable {prog : Program} {w : World} {A : Around} {E : Value → Shared → Prop} {s : Shared} {h₀ : Heap} {L : Addr} {m : Str → Option Value} {W : Wo} {pre R : Led}
theorem set_made {Q : Unit → Shared → Prop} {k : Int} {t : Nat} (F : Fr h₀ L s.heap m) (X : (Mine.hd.heap_39 w.params).In h₀) (N : News h₀ L s.heap (pre ++ (wl W ++ R))) (S : WIs W) (hd : ND (pre ++ (wl W ++ R)))
    (hs : findIn (Mine.hd.heap_39 w.params) (.ref 280) "__setattr__" = some (some (.builtin "object.__setattr__"))) (hp : plainOver (Mine.hd.heap_39 w.params) 280 = true) (ht : takerIn (Mine.hd.heap_39 w.params) 280 "made" = some none) (hh : hasDictIn (Mine.hd.heap_39 w.params) 280 = true)
    (h : ∀ h' es n, Fr h₀ L h' m → WIs (W.putMade es n k t) → ND (pre ++ (wl (W.putMade es n k t) ++ R)) → News h₀ L h' (pre ++ (wl (W.putMade es n k t) ++ R)) → Q () { s with heap := h', toks := s.toks + 2 }) :
    wpAny (model prog w) A (setAttr (.ref W.x) "made" (.int k t)) Q E s := by
  have hi := W_mem_x (W := W) (pre := pre) (R := R)
  have hdd := W_mem_d (W := W) (pre := pre) (R := R)
  refine' set_dict F X N (InstAt.of_news N hi hdd) rfl hs hp ht hh (some_of S.made) rfl (upd_d _ _ k t hd) (len_put S) ?_
  exact fun h' F' N' => h h' _ _ F' S.putMade (hd.same (by simp [Wo.putMade])) N'
end
theorem app_W {prog : Program} {w : World} {A : Around} {E : Value → Shared → Prop} {s : Shared} {h₀ : Heap} {L : Addr} {m : Str → Option Value} {W : Wo} {pre R : Led} {v : Value} {Q : Value → Shared → Prop} (F : Fr h₀ L s.heap m) (N : News h₀ L s.heap (pre ++ (wl W ++ R))) (hd : ND (pre ++ (wl W ++ R))) (hz : W.hs.length ≤ sizeLine)
    (h : ∀ h', Fr h₀ L h' m → News h₀ L h' (pre ++ (wl (W.putHs (W.hs ++ [v]) (W.hn + 1)) ++ R)) → Q .none { s with heap := h' }) : wpAny (model prog w) A (call (.builtin "list.append") [.ref W.hl, v]) Q E s :=
  append_K (its := W.hs.toArray) F N (by rw [List.push_toArray]; exact upd_h _ _ hd) (fun h' F' N' => h h' F' N') (by simpa using hz)
theorem get_WA {prog : Program} {w : World} {A : Around} {E : Value → Shared → Prop} {s : Shared} {h₀ : Heap} {L x d : Addr} {m : Str → Option Value} {news : Led} {es : List DictEntry} {n : Nat} {name : Str} {v : Value} {expr : Bool} {attr : Option Value} {Q : Value → Shared → Prop} (h : Q v { s with toks := s.toks + 1 }) (F : Fr h₀ L s.heap m := by k_asm) (N : News h₀ L s.heap news := by k_asm) (X : (Mine.hd.heap_39 w.params).In h₀ := by k_asm)
    (hi : (x, instObj 280 d) ∈ news := by k_mem) (hd : (d, dictOf es n) ∈ news := by k_mem) (hg : plainGet (Mine.hd.heap_39 w.params) 280 name = true := by k_is) (hh : hasDictIn (Mine.hd.heap_39 w.params) 280 = true := by k_is) (ha : findIn (Mine.hd.heap_39 w.params) (.ref 280) name = some attr := by k_is) (hn : noGet (Mine.hd.heap_39 w.params) attr = true := by k_is)
    (hl : getL name es = some (some v) := by first | exact WIs.made (by assumption) | exact WIs.holders (by assumption) | exact WIs.store (by assumption) | exact WIs.wnames (by assumption) | exact WIs.traced (by assumption)) (hv : handedIn v = true := by k_handed) :
    wpAny (model prog w) A (getAttr (.ref x) name expr) Q E s := get_own F X (InstAt.of_news N hi hd) hg hh ha hn hl hv h
theorem app_WA {prog : Program} {w : World} {A : Around} {E : Value → Shared → Prop} {s : Shared} {h₀ : Heap} {L : Addr} {m : Str → Option Value} {W : Wo} {pre R : Led} {v : Value} {Q : Value → Shared → Prop} (h : ∀ h', Fr h₀ L h' m → News h₀ L h' (pre ++ (wl (W.putHs (W.hs ++ [v]) (W.hn + 1)) ++ R)) → Q .none { s with heap := h' }) (F : Fr h₀ L s.heap m := by k_asm) (N : News h₀ L s.heap (pre ++ (wl W ++ R)) := by k_asm)
    (hd : ND (pre ++ (wl W ++ R)) := by assumption) (hz : W.hs.length ≤ sizeLine := by assumption) : wpAny (model prog w) A (call (.builtin "list.append") [.ref W.hl, v]) Q E s := app_W F N hd hz h

local macro_rules | `(tactic| ktr_rel) => `(tactic| first
  | exact Spl.app
  | exact Spl.here
  | (apply Spl.cons; ktr_rel)
  | exact WIs.made (by assumption)
  | exact WIs.holders (by assumption)
  | exact WIs.store (by assumption)
  | exact WIs.wnames (by assumption)
  | exact WIs.traced (by assumption))
local macro_rules | `(tactic| walk_at "getAttr ref") => `(tactic| (k_here; k_dflt (refine get_WA ?_; k_whole)))
local macro_rules | `(tactic| walk_at "setAttr ref") => `(tactic| (k_here; k_dflt (refine set_made (by k_asm) (by k_in) (by k_asm) (by assumption) (by assumption) (by k_is) (by k_is) (by k_is) (by k_is) ?_; k_whole); intro h' e' n' F' S' D' N'))
local macro_rules | `(tactic| walk_at "call builtin:list.append") => `(tactic| (k_here; k_dflt (refine app_WA ?_; k_whole); intro h' F' N'))

theorem next_call {w : World} {W : Wo} {pre R : Led} (S : WIs W) (hd : ND (pre ++ (wl W ++ R))) :
    Call w 291 [.ref W.x] 4 (pre ++ (wl W ++ R)) (fun r nw => ∃ es n t t', r = .int (W.made + 1) t ∧ WIs (W.putMade es n (W.made + 1) t') ∧ nw = pre ++ (wl (W.putMade es n (W.made + 1) t') ++ R)) := by
  w_top off
  unfold Call
  k_fill
  intro mean mg mb dp un gd cn cs a ccd cl outer A₀ base h₀ L m s Q E B F X N T' hk hdp hu ret
  have hi := W_mem_x (W := W) (pre := pre) (R := R)
  have hdd := W_mem_d (W := W) (pre := pre) (R := R)
  refine wpAny_call ?_
  k_dflt ktr_enter
  k_steps
  exact ret _ _ _ _ ⟨_, _, _, _, rfl, by assumption, rfl⟩ (by k_asm) (by k_asm)
theorem held_call {w : World} {W : Wo} {pre R : Led} {v : Value} (S : WIs W) (hd : ND (pre ++ (wl W ++ R))) (hz : W.hs.length ≤ sizeLine) :
    Call w 305 [.ref W.x, v] 4 (pre ++ (wl W ++ R)) (fun r nw => r = v ∧ nw = pre ++ (wl (W.putHs (W.hs ++ [v]) (W.hn + 1)) ++ R)) := by
  w_top off
  unfold Call
  k_fill
  intro mean mg mb dp un gd cn cs a ccd cl outer A₀ base h₀ L m s Q E B F X N T' hk hdp hu ret
  have hi := W_mem_x (W := W) (pre := pre) (R := R)
  have hdd := W_mem_d (W := W) (pre := pre) (R := R)
  have hh := W_mem_h (W := W) (pre := pre) (R := R)
  refine wpAny_call ?_
  k_dflt ktr_enter
  k_steps
  exact ret _ _ _ _ ⟨rfl, rfl⟩ (by k_asm) (by k_asm)
theorem next_use {w : World} {W : Wo} {pre R news : Led} {x : Addr} (S : Spl (wl W ++ R) news pre := by ktr_rel) (hx : x = W.x := by exact rfl) (hw : WIs W := by assumption) (hd : ND (pre ++ (wl W ++ R)) := by assumption) :
    Call w 291 [.ref x] 4 news (fun r nw => ∃ es n t t', r = .int (W.made + 1) t ∧ WIs (W.putMade es n (W.made + 1) t') ∧ nw = pre ++ (wl (W.putMade es n (W.made + 1) t') ++ R)) := by
  subst hx; rw [S.eq]; exact next_call hw hd
theorem held_use {w : World} {W : Wo} {pre R news : Led} {v : Value} {x : Addr} (S : Spl (wl W ++ R) news pre := by ktr_rel) (hx : x = W.x := by exact rfl) (hw : WIs W := by assumption) (hd : ND (pre ++ (wl W ++ R)) := by assumption) (hz : W.hs.length ≤ sizeLine := by assumption) :
    Call w 305 [.ref x, v] 4 news (fun r nw => r = v ∧ nw = pre ++ (wl (W.putHs (W.hs ++ [v]) (W.hn + 1)) ++ R)) := by
  subst hx; rw [S.eq]; exact held_call hw hd hz
theorem nl_app {P : Params} {μ : Nat → Mu} {n : Nd} : ∀ {g : List Nd} {i : Nat}, nl P i (g ++ [n]) μ = nl P i g μ ++ ndLed P n (μ (i + g.length))
  | [], i => by simp [nl]
  | m :: r, i => by
    show ndLed P m (μ i) ++ nl P (i + 1) (r ++ [n]) μ = ndLed P m (μ i) ++ nl P (i + 1) r μ ++ _
    rw [nl_app, List.append_assoc]; simp only [List.length_cons]; rw [show i + 1 + r.length = i + (r.length + 1) by omega]
theorem nl_push {P : Params} {μ : Nat → Mu} {n : Nd} {g : List Nd} {u : Mu} : nl P 0 (g ++ [n]) (setMu μ g.length u) = nl P 0 g μ ++ ndLed P n u := by
  rw [nl_app, Nat.zero_add, setMu_same, nl_same (μ := setMu μ g.length u) (μ' := μ) fun j _ h => setMu_ne μ u (by omega)]
theorem addrs_app {n : Nd} : ∀ {g : List Nd}, addrs (g ++ [n]) = addrs g ++ [n.x, n.dx, n.fx, n.vx]
  | [] => rfl
  | m :: r => by
    show [m.x, m.dx, m.fx, m.vx] ++ addrs (r ++ [n]) = [m.x, m.dx, m.fx, m.vx] ++ addrs r ++ _
    rw [addrs_app, List.append_assoc]

theorem nd_new {l : Led} {x dx vx : Addr} {a b c : Obj} (h : ND l) (h1 : AllLt vx l) (h2 : vx < dx) (h3 : dx < x) : ND ((x, a) :: (dx, b) :: (vx, c) :: l) := by
  have hl : ∀ q ∈ l.map (·.1), q < vx := fun q hq => by
    obtain ⟨p, hp, e⟩ := List.mem_map.mp hq
    exact e ▸ ktn_ltOf h1 p hp
  unfold ND at h ⊢
  simp only [List.map_cons, List.nodup_cons, List.mem_cons, not_or]
  have L : ∀ {y : Addr}, vx ≤ y → y ∉ l.map (·.1) := fun hy hq => Nat.lt_irrefl _ (Nat.lt_of_lt_of_le (hl _ hq) hy)
  exact ⟨⟨by unfold Addr at *; omega, by unfold Addr at *; omega, L (by unfold Addr at *; omega)⟩, ⟨by unfold Addr at *; omega, L (by unfold Addr at *; omega)⟩, L (Nat.le_refl _), h⟩
theorem pad_three {vs : List Value} {e : Value} : ∃ a b c, pad vs e = [a, b, c] := by
  match vs with
  | [] => exact ⟨_, _, _, rfl⟩
  | [a] => exact ⟨_, _, _, rfl⟩
  | [a, b] => exact ⟨_, _, _, rfl⟩
  | a :: b :: c :: r => exact ⟨a, b, c, rfl⟩
theorem nd_end {P : Params} {g : List Nd} {μ : Nat → Mu} {n : Nd} {u : Mu} {W : Wo} {pre : Led} {fo vo : Obj} {vx : Addr} (h : ND ((n.fx, fo) :: (vx, vo) :: (pre ++ (wl W ++ nl P 0 g μ)))) (h1 : AllLt n.vx ((n.fx, fo) :: (vx, vo) :: (pre ++ (wl W ++ nl P 0 g μ)))) (h2 : n.vx < n.dx) (h3 : n.dx < n.x) :
    ND (pre ++ (wl W ++ nl P 0 (g ++ [n]) (setMu μ g.length u))) := by
  have h4 := nd_new (a := fo) (b := fo) (c := fo) h h1 h2 h3
  rw [nl_push, show pre ++ (wl W ++ (nl P 0 g μ ++ ndLed P n u)) = (pre ++ (wl W ++ nl P 0 g μ)) ++ ndLed P n u by simp [List.append_assoc]]
  revert h4
  generalize pre ++ (wl W ++ nl P 0 g μ) = A
  unfold ND ndLed
  simp only [List.map_cons, List.map_append, List.map_nil, List.nodup_cons, List.mem_cons, not_or]
  rintro ⟨⟨a1, a2, a3, a4, a5⟩, ⟨b1, b2, b3, b4⟩, ⟨c1, c2, c3⟩, ⟨d1, d2⟩, _, f⟩
  refine List.nodup_append.mpr ⟨f, by simp only [List.nodup_cons, List.mem_cons, List.not_mem_nil, not_or, not_false_eq_true, and_true, List.nodup_nil]; exact ⟨⟨a1, a3, a2⟩, ⟨b2, b1⟩, Ne.symm c1⟩, ?_⟩
  intro q hq r hr e
  subst e
  simp only [List.mem_cons, List.not_mem_nil, or_false] at hr
  rcases hr with rfl | rfl | rfl | rfl
  · exact a5 hq
  · exact b4 hq
  · exact d2 hq
  · exact c3 hq
theorem allLt_same {a : Addr} {l l' : Led} (h : AllLt a l) (e : l.map (·.1) = l'.map (·.1)) : AllLt a l' := allLt_of fun p hp => by
  have := List.mem_map_of_mem (f := (·.1)) hp
  rw [← e] at this
  obtain ⟨r, hr, e⟩ := List.mem_map.mp this
  exact e ▸ ktn_ltOf h r hr
theorem made_sub {P : Params} {A : Led} {n : Nd} {u : Mu} {pre : Led} {g : List Nd} {μ : Nat → Mu} {b : Addr × Obj} {mk : Nat} {vals : List Value} (hm : u.mkv = .int 0 mk) (hv : u.vals = vals) :
    ∀ p ∈ pre ++ (A ++ nl P 0 (g ++ [n]) (setMu μ g.length u)), p ∈ (n.x, instObj 225 n.dx) :: (n.dx, ndDict P n (.int 0 mk)) :: (n.vx, listOf vals.toArray n.nv) :: (n.fx, listOf (fsOf n.l1 n.l2 n.l3).toArray n.nf) :: b :: pre ++ (A ++ nl P 0 g μ) := by
  intro p hp'
  rw [nl_push] at hp'
  rcases List.mem_append.mp hp' with h | h
  · exact List.mem_append.mpr (.inl (.tail _ (.tail _ (.tail _ (.tail _ (.tail _ h))))))
  rcases List.mem_append.mp h with h | h
  · exact List.mem_append.mpr (.inr (List.mem_append.mpr (.inl h)))
  rcases List.mem_append.mp h with h | h
  · exact List.mem_append.mpr (.inr (List.mem_append.mpr (.inr h)))
  unfold ndLed at h
  rw [hm, hv] at h
  refine List.mem_append.mpr (.inl ?_)
  simp only [List.mem_cons, List.not_mem_nil, or_false] at h
  rcases h with rfl | rfl | rfl | rfl
  · exact .head _
  · exact .tail _ (.head _)
  · exact .tail _ (.tail _ (.tail _ (.head _)))
  · exact .tail _ (.tail _ (.head _))
theorem same_W {W : Wo} {es : List DictEntry} {n hn t : Nat} {k : Int} {hs : List Value} {pre R : Led} {a b : Addr × Obj} : (a :: b :: (pre ++ (wl (W.putMade es n k t) ++ R))).map (·.1) = (a :: b :: (pre ++ (wl ((W.putMade es n k t).putHs hs hn) ++ R))).map (·.1) := by
  simp [Wo.putHs, Wo.putMade]
noncomputable def MadeP (P : Params) (W : Wo) (g : List Nd) (μ : Nat → Mu) (fx : Addr) (vs : List Value) (pre : Led) (r : Value) (nw : Led) : Prop :=
  ∃ (n : Nd) (es : List DictEntry) (dn t te mk : Nat) (u : Mu), r = .ref n.x ∧ n.num = W.made + 1 ∧ n.fx = fx ∧ u.mkv = .int 0 mk ∧ u.vals = pad vs (.str "" te) ∧ WIs ((W.putMade es dn (W.made + 1) t).putHs (W.hs ++ [.ref n.x]) (W.hn + 1)) ∧
    nw = pre ++ (wl ((W.putMade es dn (W.made + 1) t).putHs (W.hs ++ [.ref n.x]) (W.hn + 1)) ++ nl P 0 (g ++ [n]) (setMu μ g.length u)) ∧ ND nw
theorem made_call {w : World} {W : Wo} {g : List Nd} {μ : Nat → Mu} {vs : List Value} {vx fx : Addr} {n1 n2 : Nat} {wt l1 l2 l3 : Nat} {pre : Led} (S : WIs W)
    (hd : ND ((fx, listOf (fsOf l1 l2 l3).toArray n2) :: (vx, listOf vs.toArray n1) :: (pre ++ (wl W ++ nl w.params 0 g μ)))) (hz : W.hs.length ≤ sizeLine) (hl : vs.length ≤ 3) :
    Call w 312 [.ref W.x, .str "NODE" wt, .ref fx, .ref vx] 12 ((fx, listOf (fsOf l1 l2 l3).toArray n2) :: (vx, listOf vs.toArray n1) :: (pre ++ (wl W ++ nl w.params 0 g μ))) (MadeP w.params W g μ fx vs pre) := by
  w_top off
  unfold Call
  k_fill
  intro mean mg mb dp un gd cn cs a ccd cl outer A₀ base h₀ L m s Q E B F X N T' hk hdp hu ret
  refine wpAny_call ?_
  k_dflt ktr_enter
  iterate 20 walk1
  refine call_use2 (C := next_use (pre := (fx, listOf (fsOf l1 l2 l3).toArray n2) :: (vx, listOf vs.toArray n1) :: pre)) (ret := ?_)
  k_whole
  rintro r9 n9 h9 tk9 ⟨e7, n7, t7, t8, e9, S9, e8⟩ F9 N9
  subst e9
  subst e8
  dsimp only [List.cons_append] at N9
  have hd9 : ND (((fx, listOf (fsOf l1 l2 l3).toArray n2) :: (vx, listOf vs.toArray n1) :: pre) ++ (wl (W.putMade e7 n7 (W.made + 1) t8) ++ nl w.params 0 g μ)) := hd.same (by simp [Wo.putMade])
  iterate 8 walk1
  refine call_use2 (C := dmade_call (by k_mem) (by k_mem) hl) (ret := ?_)
  k_whole
  rintro r8 n8 h8 tk8 ⟨n, te, mk, e1, e2, e3, e4, e5, e6, e10, o1, o2, o3, e11⟩ F8 N8
  subst e1
  subst e11
  iterate 2 walk1
  refine call_use2 (C := held_use (W := W.putMade e7 n7 (W.made + 1) t8) (hd := nd_new hd9 o3 o1 o2)) (ret := ?_)
  k_whole
  rintro r7 n7' h7 tk7 ⟨e12, e13⟩ F7 N7
  subst e12
  subst e13
  k_steps
  subst e3; subst e4; subst e5; subst e6; subst e10
  obtain ⟨a1, b1, c1, hp⟩ := pad_three (vs := vs) (e := .str "" te)
  exact ret _ _ _ _ ⟨n, e7, n7, t8, te, mk, ⟨.int 0 mk, a1, b1, c1⟩, rfl, e2, rfl, rfl, hp.symm, S9.putHs, rfl, nd_end (ND.same hd9 same_W) (allLt_same o3 same_W) o1 o2⟩ (by k_asm) (news_sub (by k_asm) (made_sub rfl hp.symm))

/-! a list comprehension of two clauses, the second over two constants, its element read and nothing changed -/
open LCg in
section
variable {prog : Program} {w : World} {A : Around} {E : Value → Shared → Prop} {R : Result → Shared → Prop} {s : Shared} {h₀ : Heap} {L : Addr} {m : Str → Option Value} {env : Env}
theorem compTurn_in (elt target iter target2 iter2 : Expr) (scope : Scope) (pos : Pos) (it acc : Value) (env : Env) :
    compTurn (.ListComp elt [⟨target, iter, [], 0⟩, ⟨target2, iter2, [], 0⟩] scope pos) 1 it acc env = (standAt iter2.pos >>= fun _ => pyNext it >>= fun r => match r with
      | none => pure (.done .next)
      | some v => letOwnedTupleGo target2 it v >>= fun _ => assign target2 env v >>= fun _ =>
        (eval elt env >>= fun x => call (.builtin "list.append") [acc, x] >>= fun _ => pure ()) >>= fun _ =>
          again (.compLoop (.ListComp elt [⟨target, iter, [], 0⟩, ⟨target2, iter2, [], 0⟩] scope pos) 1 it acc env)) := by rfl
theorem compTurn_out (elt target iter target2 iter2 : Expr) (scope : Scope) (pos : Pos) (it acc : Value) (env : Env) :
    compTurn (.ListComp elt [⟨target, iter, [], 0⟩, ⟨target2, iter2, [], 0⟩] scope pos) 0 it acc env = (standAt iter.pos >>= fun _ => pyNext it >>= fun r => match r with
      | none => pure (.done .next)
      | some v => letOwnedTupleGo target it v >>= fun _ => assign target env v >>= fun _ =>
        eval iter2 env >>= fun x => standAt iter2.pos >>= fun _ => foldedSetIterable iter2 env x >>= fun x => holding [x] (pyIter x) >>= fun j =>
          runOwn (.compStart (.ListComp elt [⟨target, iter, [], 0⟩, ⟨target2, iter2, [], 0⟩] scope pos) 1 j acc env) env >>= fun _ =>
          again (.compLoop (.ListComp elt [⟨target, iter, [], 0⟩, ⟨target2, iter2, [], 0⟩] scope pos) 0 it acc env)) := by rfl
noncomputable abbrev tupO (vs : List Value) : Obj := { cls := .type "tuple", data := .seq vs.toArray }
/-- what one element's reading does -/
noncomputable def EltN (prog : Program) (w : World) (A : Around) (h₀ : Heap) (L : Addr) (m : Str → Option Value) (env : Env) (elt : PySem.Expr) (x x₂ : Str) (scope : Scope) (cl : List (Str × Addr)) (C : Addr) (s : Shared) (news : Led) (v sv y : Value) : Prop :=
  ∀ oC m₂ h tk led (E' : Value → Shared → Prop), NsObj oC m₂ → m₂ x = some v → m₂ x₂ = some sv → Fr h₀ L h m → News h₀ L h led → (C, oC) ∈ led → (∀ p ∈ news, p ∈ led) →
    wpAny (model prog w) A (eval elt (compEnvC scope cl C env)) (fun r s' => r = y ∧ ∃ h' tk', s' = { s with heap := h', toks := tk' } ∧ Fr h₀ L h' m ∧ News h₀ L h' led) E' { s with heap := h, toks := tk }
/-- five places apart, new since h₀ -/
structure Apart5 (h₀ : Heap) (L : Addr) (news : Led) (l : List Addr) : Prop where
  nodup : l.Nodup
  fresh : ∀ a ∈ l, a ≠ L ∧ h₀.get? a = none
  off : ∀ p ∈ news, p.1 ∉ l
structure Live (h₀ : Heap) (L : Addr) (m : Str → Option Value) (news : Led) (I C D : Addr) (oI : Obj) (m₁ : Str → Option Value) (ys : List Value) (h : Heap) : Prop where
  F : Fr h₀ L h m
  N : News h₀ L h news
  I : h.get? I = some oI
  C : h.Ns C m₁
  D : h.get? D = some (lst ys)
theorem Live.keeps {h h' : Heap} {news : Led} {I C D : Addr} {oI : Obj} {m₁ : Str → Option Value} {ys : List Value} (x : Live h₀ L m news I C D oI m₁ ys h) (k : ∀ b o, h.get? b = some o → h'.get? b = some o) : Live h₀ L m news I C D oI m₁ ys h' :=
  ⟨x.F.keeps k, x.N.grown k, k _ _ x.I, x.C.keeps k, k _ _ x.D⟩
theorem Live.other {h h' : Heap} {a : Addr} {news : Led} {I C D : Addr} {oI : Obj} {m₁ : Str → Option Value} {ys : List Value} (x : Live h₀ L m news I C D oI m₁ ys h) (k : Heap.SameBut a h h') (ha : a ≠ L ∧ h₀.get? a = none) (off : ∀ p ∈ news, p.1 ≠ a) (hI : I ≠ a) (hC : C ≠ a) (hD : D ≠ a) : Live h₀ L m news I C D oI m₁ ys h' :=
  ⟨x.F.change k ha.1 ha.2, fun p hp => ⟨k.extBut _ _ (off p hp) (x.N p hp).1, (x.N p hp).2⟩, k.extBut _ _ hI x.I, x.C.sameBut k hC, k.extBut _ _ hD x.D⟩
theorem Live.otherE {h h' : Heap} {a : Addr} {news : Led} {I C D : Addr} {oI : Obj} {m₁ : Str → Option Value} {ys : List Value} (x : Live h₀ L m news I C D oI m₁ ys h) (k : Heap.ExtBut a h h') (ha : a ≠ L ∧ h₀.get? a = none) (off : ∀ p ∈ news, p.1 ≠ a) (hI : I ≠ a) (hC : C ≠ a) (hD : D ≠ a) : Live h₀ L m news I C D oI m₁ ys h' :=
  have k' : ∀ b o, b ∉ [a] → h.get? b = some o → h'.get? b = some o := fun b o hb e => k b o (by simpa using hb) e
  ⟨fr_but x.F k' (Ne.symm ha.1) ha.2, news_but x.N k' off, k _ _ hI x.I, x.C.at' fun o e => k _ o hC e, k _ _ hD x.D⟩
theorem Live.setC {h h' : Heap} {news : Led} {I C D : Addr} {oI : Obj} {m₁ m₂ : Str → Option Value} {ys : List Value} (x : Live h₀ L m news I C D oI m₁ ys h) (k : Heap.SameBut C h h') (n : h'.Ns C m₂) (ha : C ≠ L ∧ h₀.get? C = none) (off : ∀ p ∈ news, p.1 ≠ C) (hI : I ≠ C) (hD : D ≠ C) : Live h₀ L m news I C D oI m₂ ys h' :=
  ⟨x.F.change k ha.1 ha.2, fun p hp => ⟨k.extBut _ _ (off p hp) (x.N p hp).1, (x.N p hp).2⟩, k.extBut _ _ hI x.I, n, k.extBut _ _ hD x.D⟩
theorem Live.setD {h h' : Heap} {news : Led} {I C D : Addr} {oI : Obj} {m₁ : Str → Option Value} {ys zs : List Value} (x : Live h₀ L m news I C D oI m₁ ys h) (k : Heap.SameBut D h h') (n : h'.get? D = some (lst zs)) (ha : D ≠ L ∧ h₀.get? D = none) (off : ∀ p ∈ news, p.1 ≠ D) (hI : I ≠ D) (hC : C ≠ D) : Live h₀ L m news I C D oI m₁ zs h' :=
  ⟨x.F.change k ha.1 ha.2, fun p hp => ⟨k.extBut _ _ (off p hp) (x.N p hp).1, (x.N p hp).2⟩, k.extBut _ _ hI x.I, x.C.sameBut k hC, n⟩
theorem Live.setI {h h' : Heap} {news : Led} {I C D : Addr} {oI oI' : Obj} {m₁ : Str → Option Value} {ys : List Value} (x : Live h₀ L m news I C D oI m₁ ys h) (k : Heap.SameBut I h h') (n : h'.get? I = some oI') (ha : I ≠ L ∧ h₀.get? I = none) (off : ∀ p ∈ news, p.1 ≠ I) (hC : C ≠ I) (hD : D ≠ I) : Live h₀ L m news I C D oI' m₁ ys h' :=
  ⟨x.F.change k ha.1 ha.2, fun p hp => ⟨k.extBut _ _ (off p hp) (x.N p hp).1, (x.N p hp).2⟩, n, x.C.sameBut k hC, k.extBut _ _ hD x.D⟩
/-- one reading of the element -/
theorem Live.elt {h : Heap} {tk : Nat} {news : Led} {I C D J T : Addr} {oI oJ oT : Obj} {m₁ : Str → Option Value} {ys : List Value} {elt : PySem.Expr} {x x₂ : Str} {scope : Scope} {cl : List (Str × Addr)} {v sv y : Value} {Q : Value → Shared → Prop} {E' : Value → Shared → Prop}
    (l : Live h₀ L m news I C D oI m₁ ys h) (hJ : h.get? J = some oJ) (hT : h.get? T = some oT) (ap : Apart5 h₀ L news [I, C, D, J, T]) (hv : m₁ x = some v) (hsv : m₁ x₂ = some sv)
    (e : EltN prog w A h₀ L m env elt x x₂ scope cl C s news v sv y)
    (hQ : ∀ h' tk', Live h₀ L m news I C D oI m₁ ys h' → h'.get? J = some oJ → h'.get? T = some oT → Q y { s with heap := h', toks := tk' }) :
    wpAny (model prog w) A (eval elt (compEnvC scope cl C env)) Q E' { s with heap := h, toks := tk } := by
  obtain ⟨oC, heC, hoC⟩ := ns_obj l.C
  have fr := ap.fresh
  have N' : News h₀ L h ((I, oI) :: (C, oC) :: (D, lst ys) :: (J, oJ) :: (T, oT) :: news) := fun p hp => by
    simp only [List.mem_cons] at hp
    rcases hp with rfl | rfl | rfl | rfl | rfl | hp
    · exact ⟨l.I, fr _ (by simp)⟩
    · exact ⟨heC, fr _ (by simp)⟩
    · exact ⟨l.D, fr _ (by simp)⟩
    · exact ⟨hJ, fr _ (by simp)⟩
    · exact ⟨hT, fr _ (by simp)⟩
    · exact l.N p hp
  refine wpAny_mono (e oC m₁ h tk _ E' hoC hv hsv l.F N' (.tail _ (.head _)) fun p hp => .tail _ (.tail _ (.tail _ (.tail _ (.tail _ hp))))) ?_ fun _ _ q => q
  rintro r s' ⟨rfl, h', tk', rfl, F', N''⟩
  exact hQ h' tk' ⟨F', fun p hp => N'' p (.tail _ (.tail _ (.tail _ (.tail _ (.tail _ hp))))), (N'' (I, oI) (.head _)).1, hoC.ns (N'' (C, oC) (.tail _ (.head _))).1, (N'' (D, lst ys) (.tail _ (.tail _ (.head _)))).1⟩
    (N'' (J, oJ) (.tail _ (.tail _ (.tail _ (.head _))))).1 (N'' (T, oT) (.tail _ (.tail _ (.tail _ (.tail _ (.head _)))))).1
theorem inner_N {elt iter iter2 : PySem.Expr} {x x₂ : Str} {px px₂ : Pos} {scope : Scope} {cl : List (Str × Addr)} {pos : Pos} {news : Led} {I C D J T : Addr} {oI : Obj} {m₁ : Str → Option Value} {ys : List Value} {v a b ya yb : Value}
    (hh : A.handled = none) (hkind : scope.kind = .function) (hx₂ : scope.names.lookup x₂ = some .local) (hne : x ≠ x₂) (hv : m₁ x = some v) (hz : ys.length + 2 ≤ sizeLine)
    (l : Live h₀ L m news I C D oI m₁ ys s.heap) (hJ : s.heap.get? J = some { cls := .type "tuple_iterator", data := .fields #[.ref T, .int 0 0] }) (hT : s.heap.get? T = some (tupO [a, b])) (ap : Apart5 h₀ L news [I, C, D, J, T])
    (ea : EltN prog w A h₀ L m env elt x x₂ scope cl C s news v a ya) (eb : EltN prog w A h₀ L m env elt x x₂ scope cl C s news v b yb)
    (hR : ∀ h' tk' m₂, m₂ x = some v → Live h₀ L m news I C D oI m₂ (ys ++ [ya, yb]) h' → R (.ok .next) { s with heap := h', toks := tk' }) :
    codeAny (model prog w) A (.compLoop (.ListComp elt [⟨.Name x px, iter, [], 0⟩, ⟨.Name x₂ px₂, iter2, [], 0⟩] scope pos) 1 (.ref J) (.ref D) (compEnvC scope cl C env)) R s := by
  have nd := ap.nodup
  simp only [List.nodup_cons, List.mem_cons, List.not_mem_nil, or_false, not_or, not_false_eq_true, List.nodup_nil, and_true] at nd
  obtain ⟨⟨nIC, nID, nIJ, nIT⟩, ⟨nCD, nCJ, nCT⟩, ⟨nDJ, nDT⟩, nJT⟩ := nd
  have fI := ap.fresh I (by simp)
  have fC := ap.fresh C (by simp)
  have fD := ap.fresh D (by simp)
  have fJ := ap.fresh J (by simp)
  have off : ∀ q ∈ [I, C, D, J, T], ∀ p ∈ news, p.1 ≠ q := fun q hq p hp e => ap.off p hp (e ▸ hq)
  have htup : ∀ h : Heap, h.get? T = some (tupO [a, b]) → h.IsTuple T #[a, b] := fun h e => ⟨_, e, rfl, _, rfl⟩
  let yz : Nat → List Value := fun j => ys ++ [ya, yb].take j
  refine codeAny_loop rfl (fun k s' => ∃ h' tk j m₂ oJ, s' = { s with heap := h', toks := tk } ∧ j ≤ 2 ∧ k = 3 - j ∧ m₂ x = some v ∧ Live h₀ L m news I C D oI m₂ (yz j) h' ∧ h'.get? J = some oJ ∧ oJ.cls = .type "tuple_iterator" ∧ oJ.data = .fields #[.ref T, .int (j : Nat) 0] ∧ h'.get? T = some (tupO [a, b])) ?_ 3
    ⟨s.heap, s.toks, 0, m₁, _, rfl, by decide, rfl, hv, by simpa [yz] using l, hJ, rfl, rfl, hT⟩
  rintro k s' ⟨h', tk, j, m₂, oJ, rfl, hj, rfl, hv₂, l', hJ', c1, c2, hT'⟩
  show wpAny _ A ((compTurn (.ListComp elt [⟨.Name x px, iter, [], 0⟩, ⟨.Name x₂ px₂, iter2, [], 0⟩] scope pos) 1 (.ref J) (.ref D) (compEnvC scope cl C env)).onRaise (fun x => do noteFrame x (compEnvC scope cl C env); theTreesLotGoes x)) _ _ _
  refine wpAny_noted ?_
  rw [compTurn_in]
  refine wpAny_bind (wpAny_standAt (wpAny_bind ?_))
  by_cases hlt : j < 2
  · obtain ⟨sv, y, hsv, hel, hyz⟩ : ∃ sv y, #[a, b][j]? = some sv ∧ EltN prog w A h₀ L m env elt x x₂ scope cl C s news v sv y ∧ yz (j + 1) = yz j ++ [y] := by
      have : j = 0 ∨ j = 1 := by omega
      rcases this with rfl | rfl
      · exact ⟨a, ya, rfl, ea, by simp [yz]⟩
      · exact ⟨b, yb, rfl, eb, by simp [yz]⟩
    refine wpAny_pyNext_tuple_item ⟨oJ, hJ', c1, c2⟩ (htup _ hT') hsv fun h₂ hit₂ hs₂ => ?_
    have l₂ := l'.other hs₂ fJ (off J (by simp)) nIJ nCJ nDJ
    have hT₂ : h₂.get? T = some (tupO [a, b]) := hs₂.extBut _ _ (Ne.symm nJT) hT'
    refine wpAny_bind (wpAny_of_eq (by rfl) (wpAny_bind (wpAny_assign_Name (wpAny_storeName_local (lookup_relabel_local hx₂) l₂.C (fun h₃ hn₃ hs₃ => ?_) (by simp [compEnvC, relabel, hkind])))))
    have l₃ := l₂.setC hs₃ hn₃ fC (off C (by simp)) nIC (Ne.symm nCD)
    have hT₃ : h₃.get? T = some (tupO [a, b]) := hs₃.extBut _ _ (Ne.symm nCT) hT₂
    obtain ⟨oJ', eJ, c1', c2'⟩ := hit₂
    have hJ₃ : h₃.get? J = some oJ' := hs₃.extBut _ _ (Ne.symm nCJ) eJ
    refine wpAny_bind (wpAny_bind (l₃.elt hJ₃ hT₃ ap (by simp [hne, hv₂]) (by simp) hel fun h₄ tk₄ l₄ hJ₄ hT₄ => wpAny_bind ?_))
    refine append_at (hsz := by rw [List.size_toArray]; simp only [yz, List.length_append, List.length_take, List.length_cons, List.length_nil]; omega) l₄.D fun h₅ hs₅ hD₅ => ?_
    have l₅ := l₄.setD (zs := yz j ++ [y]) hs₅ (hD₅.trans (congrArg some (lst_snoc _ y))) fD (off D (by simp)) nID nCD
    exact wpAny_pure (wpAny_pure ⟨rfl, 3 - (j + 1), by omega, h₅, tk₄, j + 1, _, oJ', rfl, by omega, rfl, by simp [hne, hv₂], hyz ▸ l₅, hs₅.extBut _ _ (Ne.symm nDJ) hJ₄, c1', c2', hs₅.extBut _ _ (Ne.symm nDT) hT₄⟩)
  · obtain rfl : j = 2 := by omega
    refine wpAny_pyNext_tuple_end hh ⟨oJ, hJ', c1, c2⟩ (htup _ hT') (by rfl) fun h₂ hs₂ => ?_
    exact wpAny_pure (hR h₂ tk m₂ hv₂ (l'.otherE hs₂ fJ (off J (by simp)) nIJ nCJ nDJ))
theorem codeAny_compStart_in {elt target iter target2 iter2 scope pos it acc env}
    (h0 : codeAny (model prog w) A (.compLoop (.ListComp elt [⟨target, iter, [], 0⟩, ⟨target2, iter2, [], 0⟩] scope pos) 1 it acc env) R s)
    (h : wpAny (model prog w) A (pyIter it) (fun it' s' => codeAny (model prog w) A (.compLoop (.ListComp elt [⟨target, iter, [], 0⟩, ⟨target2, iter2, [], 0⟩] scope pos) 1 it' acc env) R s')
      (notedBy (model prog w) A env fun x s' => R (.error x) s') s) :
    codeAny (model prog w) A (.compStart (.ListComp elt [⟨target, iter, [], 0⟩, ⟨target2, iter2, [], 0⟩] scope pos) 1 it acc env) R s := by
  refine codeAny_of_tree ?_
  show wpAny _ _ ((compStart (.ListComp elt [⟨target, iter, [], 0⟩, ⟨target2, iter2, [], 0⟩] scope pos) 1 it acc env).onRaise (fun x => do noteFrame x env; standAt theWindowsPlace)) _ _ s
  refine wpAny_notedAt ?_
  unfold compStart
  show wpAny _ _ (ask >>= _) _ _ s
  refine wpAny_bind (wpAny_askSetting (wpAny_ite ?_))
  split
  · first
      | exact wpAny_bind (wpAny_pure (wpAny_pure (And.intro rfl h0)))
      | exact wpAny_pure (And.intro rfl h0)
  · first
      | exact wpAny_bind (wpAny_rule (wpAny_bind (wpAny_standAt (wpAny_bind (wpAny_mono h (fun it' s' h' => wpAny_pure (And.intro rfl h')) fun _ _ x => x)))))
      | (refine wpAny_bind (wpAny_rule ?_); show wpAny _ _ (standAt iter2.pos >>= _) _ _ s; exact wpAny_bind (wpAny_standAt (wpAny_bind (wpAny_mono h (fun it' s' h' => wpAny_pure (And.intro rfl h')) fun _ _ x => x))))
noncomputable def flat2 (f : Nat → Bool → Value) : Nat → List Value
  | 0 => []
  | i + 1 => flat2 f i ++ [f i false, f i true]
theorem flat2_len (f : Nat → Bool → Value) : ∀ i, (flat2 f i).length = 2 * i
  | 0 => rfl
  | i + 1 => by simp only [flat2, List.length_append, flat2_len f i, List.length_cons, List.length_nil]; omega
theorem block_N {elt iter iter2 : PySem.Expr} {x x₂ a b : Str} {px px₂ : Pos} {scope : Scope} {cl : List (Str × Addr)} {pos : Pos} {news : Led} {I C D ax : Addr} {m₁ : Str → Option Value} {its : List Value} {c : Nat} {f : Nat → Bool → Value}
    (hh : A.handled = none) (hkind : scope.kind = .function) (hx : scope.names.lookup x = some .local) (hx₂ : scope.names.lookup x₂ = some .local) (hne : x ≠ x₂) (hz : 2 * its.length + 2 ≤ sizeLine)
    (hax : (ax, listOf its.toArray c) ∈ news)
    (l : Live h₀ L m news I C D { cls := .type "list_iterator", data := .fields #[.ref ax, .int 0 0] } m₁ [] s.heap)
    (nIC : I ≠ C) (nID : I ≠ D) (nCD : C ≠ D) (fr : ∀ q ∈ [I, C, D], q ≠ L ∧ h₀.get? q = none) (off : ∀ p ∈ news, p.1 ∉ [I, C, D])
    (hit : ∀ (s : Shared) (Q E : Value → Shared → Prop), (∀ t1 t2 tk, Q (.ref s.heap.objs.size) { s with heap := s.heap.push (tupO [.str a t1, .str b t2]), toks := tk }) → wpAny (model prog w) A (eval iter2 (compEnvC scope cl C env)) Q E s)
    (hs : ∀ y, foldedSetIterable iter2 (compEnvC scope cl C env) y = pure y)
    (ea : ∀ i v t, its[i]? = some v → EltN prog w A h₀ L m env elt x x₂ scope cl C s news v (.str a t) (f i false))
    (eb : ∀ i v t, its[i]? = some v → EltN prog w A h₀ L m env elt x x₂ scope cl C s news v (.str b t) (f i true))
    (hR : ∀ h' tk' m₂, Fr h₀ L h' m → News h₀ L h' news → h'.Ns C m₂ → h'.get? D = some (lst (flat2 f its.length)) → R (.ok .next) { s with heap := h', toks := tk' }) :
    codeAny (model prog w) A (.compLoop (.ListComp elt [⟨.Name x px, iter, [], 0⟩, ⟨.Name x₂ px₂, iter2, [], 0⟩] scope pos) 0 (.ref I) (.ref D) (compEnvC scope cl C env)) R s := by
  have fI := fr I (by simp)
  have fC := fr C (by simp)
  have fD := fr D (by simp)
  have off' : ∀ q ∈ [I, C, D], ∀ p ∈ news, p.1 ≠ q := fun q hq p hp e => off p hp (e ▸ hq)
  have nax : ∀ q ∈ [I, C, D], ax ≠ q := fun q hq => off' q hq _ hax
  refine codeAny_loop rfl (fun k s' => ∃ h' tk i m₂ oI, s' = { s with heap := h', toks := tk } ∧ i ≤ its.length ∧ k = its.length + 1 - i ∧ Live h₀ L m news I C D oI m₂ (flat2 f i) h' ∧ oI.cls = .type "list_iterator" ∧ oI.data = .fields #[.ref ax, .int (i : Nat) 0]) ?_ (its.length + 1)
    ⟨s.heap, s.toks, 0, m₁, _, rfl, Nat.zero_le _, rfl, l, rfl, rfl⟩
  rintro k s' ⟨h', tk, i, m₂, oI, rfl, hi, rfl, l', c1, c2⟩
  show wpAny _ A ((compTurn (.ListComp elt [⟨.Name x px, iter, [], 0⟩, ⟨.Name x₂ px₂, iter2, [], 0⟩] scope pos) 0 (.ref I) (.ref D) (compEnvC scope cl C env)).onRaise (fun x => do noteFrame x (compEnvC scope cl C env); theTreesLotGoes x)) _ _ _
  refine wpAny_noted ?_
  rw [compTurn_out]
  refine wpAny_bind (wpAny_standAt (wpAny_bind ?_))
  have hl' : h'.IsList ax its.toArray := ⟨_, (l'.N _ hax).1, rfl, _, rfl⟩
  by_cases hlt : i < its.length
  · obtain ⟨v, hv⟩ : ∃ v, its[i]? = some v := ⟨_, List.getElem?_eq_getElem hlt⟩
    refine wpAny_pyNext_list_item ⟨oI, l'.I, c1, c2⟩ hl' (by simpa using hv) fun h₂ hit₂ hs₂ => ?_
    obtain ⟨oI', eI, c1', c2'⟩ := hit₂
    have l₂ := l'.setI hs₂ eI fI (off' I (by simp)) (Ne.symm nIC) (Ne.symm nID)
    refine wpAny_bind (wpAny_of_eq (by rfl) (wpAny_bind (wpAny_assign_Name (wpAny_storeName_local (lookup_relabel_local hx) l₂.C (fun h₃ hn₃ hs₃ => ?_) (by simp [compEnvC, relabel, hkind])))))
    have l₃ := l₂.setC hs₃ hn₃ fC (off' C (by simp)) nIC (Ne.symm nCD)
    refine wpAny_bind (hit _ _ _ fun t1 t2 tk₃ => wpAny_bind (wpAny_standAt (wpAny_bind (wpAny_of_eq (hs _) (wpAny_bind (wpAny_holding ?_))))))
    have hT₄ : (h₃.push (tupO [.str a t1, .str b t2])).get? h₃.objs.size = some (tupO [.str a t1, .str b t2]) := Heap.get?_push_size _ rfl
    refine wpAny_pyIter_tuple (items := #[.str a t1, .str b t2]) ⟨_, hT₄, rfl, _, rfl⟩ ?_
    generalize hH4 : h₃.push (tupO [.str a t1, .str b t2]) = h₄ at hT₄ ⊢
    have k₄ : ∀ q o, h₃.get? q = some o → h₄.get? q = some o := fun q o e => hH4 ▸ Heap.get?_push_of_some _ e
    have z₄ : h₄.objs.size = h₃.objs.size + 1 := by rw [← hH4, Heap.size_push]
    have l₄ := l₃.keeps k₄
    dsimp only
    have k₅ : ∀ q o, h₄.get? q = some o → (h₄.push { cls := .type "tuple_iterator", data := .fields #[.ref h₃.objs.size, .int 0 0] }).get? q = some o := fun q o e => Heap.get?_push_of_some _ e
    have l₅ := l₄.keeps k₅
    have lt₃ : ∀ q o, h₃.get? q = some o → q < h₃.objs.size := fun q o e => Heap.lt_size e
    have iI := lt₃ _ _ l₃.I
    have iC := l₃.C.lt
    have iD := lt₃ _ _ l₃.D
    have iL := l₃.F.ns.lt
    have nn : ∀ p ∈ news, p.1 < h₃.objs.size := fun p hp => lt₃ _ _ (l₃.N p hp).1
    have fT : h₀.get? h₃.objs.size = none := next_is_new l₃.F
    have fJ : h₀.get? h₄.objs.size = none := next_is_new l₄.F
    have n4 : ∀ q : Addr, q < h₃.objs.size → q ≠ h₄.objs.size ∧ q ≠ h₃.objs.size := fun q hq => ⟨by rw [z₄]; exact Nat.ne_of_lt (Nat.lt_succ_of_lt hq), Nat.ne_of_lt hq⟩
    have n5 : h₄.objs.size ≠ h₃.objs.size := by rw [z₄]; exact Nat.succ_ne_self _
    have ap : Apart5 h₀ L news [I, C, D, h₄.objs.size, h₃.objs.size] := by
      refine ⟨?_, ?_, ?_⟩
      · simp only [List.nodup_cons, List.mem_cons, List.not_mem_nil, or_false, not_or, not_false_eq_true, List.nodup_nil, and_true]
        exact ⟨⟨nIC, nID, n4 I iI⟩, ⟨nCD, n4 C iC⟩, n4 D iD, n5⟩
      · intro q hq
        simp only [List.mem_cons, List.not_mem_nil, or_false] at hq
        rcases hq with rfl | rfl | rfl | rfl | rfl
        · exact fI
        · exact fC
        · exact fD
        · exact ⟨Ne.symm (n4 L iL).1, fJ⟩
        · exact ⟨Ne.symm (n4 L iL).2, fT⟩
      · intro p hp hm
        simp only [List.mem_cons, List.not_mem_nil, or_false] at hm
        have nn' := n4 _ (nn p hp)
        rcases hm with e | e | e | e | e
        · exact off' I (by simp) p hp e
        · exact off' C (by simp) p hp e
        · exact off' D (by simp) p hp e
        · exact nn'.1 e
        · exact nn'.2 e
    refine wpAny_bind (wpAny_runOwn ?_)
    refine codeAny_compStart_in (inner_N (by exact hh) hkind hx₂ hne (by simp) (by rw [flat2_len]; omega) l₅ (Heap.get?_push_size _ rfl) (k₅ _ _ hT₄) ap (ea i v t1 hv) (eb i v t2 hv) fun h₆ tk₆ m₆ hv₆ l₆ => ?_)
      (wpAny_pyIter_tupleiter ⟨_, Heap.get?_push_size _ rfl, rfl, rfl⟩ (inner_N (by exact hh) hkind hx₂ hne (by simp) (by rw [flat2_len]; omega) l₅ (Heap.get?_push_size _ rfl) (k₅ _ _ hT₄) ap (ea i v t1 hv) (eb i v t2 hv) fun h₆ tk₆ m₆ hv₆ l₆ => ?_))
    · exact wpAny_pure ⟨rfl, its.length + 1 - (i + 1), by omega, h₆, tk₆, i + 1, m₆, _, rfl, hlt, rfl, l₆, c1', c2'⟩
    · exact wpAny_pure ⟨rfl, its.length + 1 - (i + 1), by omega, h₆, tk₆, i + 1, m₆, _, rfl, hlt, rfl, l₆, c1', c2'⟩
  · obtain rfl : i = its.length := by omega
    refine wpAny_pyNext_list_end hh ⟨oI, l'.I, c1, c2⟩ hl' (by simp) fun h₂ hs₂ => ?_
    have k' : ∀ b o, b ∉ [I] → h'.get? b = some o → h₂.get? b = some o := fun b o hb e => hs₂ b o (by simpa using hb) e
    exact wpAny_pure (hR h₂ tk m₂ (fr_but l'.F k' (Ne.symm fI.1) fI.2) (news_but l'.N k' (off' I (by simp))) (l'.C.at' fun o e => k' _ o (by simpa using Ne.symm nIC) e) (k' _ _ (by simpa using Ne.symm nID) l'.D))
theorem Assign_ListComp_N {elt iter iter2 : PySem.Expr} {x x₂ y a b : Str} {px px₂ py : Pos} {scope : Scope} {cl : List (Str × Addr)} {pos spos : Pos} {Q : Flow → Shared → Prop} {news : Led} {ax : Addr} {its : List Value} {c : Nat} {f : Nat → Bool → Value}
    (F : Fr h₀ L s.heap m) (N : News h₀ L s.heap news) (hax : (ax, listOf its.toArray c) ∈ news) (hz : 2 * its.length + 2 ≤ sizeLine) (hLe : env.locals = L)
    (hsw : swapsWith (.ListComp elt [⟨.Name x px, iter, [], 0⟩, ⟨.Name x₂ px₂, iter2, [], 0⟩] scope pos) (some (.Name y py)) spos.line env = pure true)
    (hiter : ∀ (Q : Value → Shared → Prop), Q (.ref ax) s → wpAny (model prog w) A (eval iter env) Q E s)
    (hh : A.handled = none) (hclos : closureFor scope env = pure cl) (hcell : ∀ y ∈ scope.names, y.2 ≠ .cell) (hkind : scope.kind = .function) (hnames : ∀ y ∈ scope.names, y.2 = .local → scope.names.lookup y.1 = some .local)
    (hx : scope.names.lookup x = some .local) (hx₂ : scope.names.lookup x₂ = some .local) (hne : x ≠ x₂)
    (hy : env.kindOf y = some .local) (hp : (env.scope.kind == .class || (env.scope.kind == .module && env.locals != env.globals)) = false)
    (hit : ∀ C (s : Shared) (Q E : Value → Shared → Prop), (∀ t1 t2 tk, Q (.ref s.heap.objs.size) { s with heap := s.heap.push (tupO [.str a t1, .str b t2]), toks := tk }) → wpAny (model prog w) A (eval iter2 (compEnvC scope cl C env)) Q E s)
    (hs2 : ∀ C y, foldedSetIterable iter2 (compEnvC scope cl C env) y = pure y)
    (ea : ∀ C i v t, its[i]? = some v → EltN prog w A h₀ L m env elt x x₂ scope cl C s news v (.str a t) (f i false))
    (eb : ∀ C i v t, its[i]? = some v → EltN prog w A h₀ L m env elt x x₂ scope cl C s news v (.str b t) (f i true))
    (h : ∀ D h' tk', Fr h₀ L h' (fun z => if z = y then some (.ref D) else m z) → News h₀ L h' ((D, lst (flat2 f its.length)) :: news) → (∀ p ∈ news, p.1 < D) → Q .next { s with heap := h', toks := tk' })
    (hs : ∀ x, foldedSetIterable iter env x = pure x := by intro _; rfl) :
    wpAny (model prog w) A (exec (.Assign [.Name y py] (.ListComp elt [⟨.Name x px, iter, [], 0⟩, ⟨.Name x₂ px₂, iter2, [], 0⟩] scope pos) spos) env) Q E s := by
  subst hLe
  rw [exec_Assign_Name_used _ _ _ _ hsw]
  refine wpAny_bind (wpAny_standAt (wpAny_bind ?_))
  show wpAny _ A (do let _ ← comprehension (.ListComp elt [⟨.Name x px, iter, [], 0⟩, ⟨.Name x₂ px₂, iter2, [], 0⟩] scope pos) scope env _ (newList []) false (eval iter env) (some (assign (.Name y py) env))) _ _ s
  refine wpAny_bind (wpAny_mono (wpAny_comprehension_free (use := some (assign (.Name y py) env)) (Q := fun _ s' => Q .next s') rfl hs hclos hkind hnames
    (hiter _ ?_)) (fun _ s' hq => wpAny_pure (wpAny_pure hq)) fun _ _ e => e)
  have hl : s.heap.IsList ax its.toArray := ⟨_, (N _ hax).1, rfl, _, rfl⟩
  refine wpAny_pyIter_list hl ?_
  refine wpAny_newObj_type (wpAny_newFunctionEnv hcell (by intro y hy; simp at hy) (fun h₁ hns₁ hsb₁ => ?_) hkind)
  dsimp only at hns₁ hsb₁ ⊢
  generalize hH1 : s.heap.push { cls := .type "list_iterator", data := .fields #[.ref ax, .int 0 0] } = H1 at hns₁ hsb₁ ⊢
  generalize hH2 : H1.push { cls := .type "list", dict := none, data := .seq ([] : List Value).toArray } = H2 at hns₁ hsb₁ ⊢
  have z1 : H1.objs.size = s.heap.objs.size + 1 := by rw [← hH1, Heap.size_push]
  have z2 : H2.objs.size = s.heap.objs.size + 1 + 1 := by rw [← hH2, Heap.size_push, z1]
  have k1 : ∀ b o, s.heap.get? b = some o → H1.get? b = some o := fun b o e => hH1 ▸ Heap.get?_push_of_some _ e
  have k2 : ∀ b o, H1.get? b = some o → H2.get? b = some o := fun b o e => hH2 ▸ Heap.get?_push_of_some _ e
  have lt2 : ∀ b o, H2.get? b = some o → b ≠ H2.objs.size := fun b o e => Nat.ne_of_lt (Heap.lt_size e)
  have k3 : ∀ b o, H2.get? b = some o → h₁.get? b = some o := fun b o e => hsb₁.extBut _ _ (lt2 b o e) (Heap.get?_push_of_some _ e)
  have eI : H1.get? s.heap.objs.size = some { cls := .type "list_iterator", data := .fields #[.ref ax, .int 0 0] } := hH1 ▸ Heap.get?_push_size _ rfl
  have eD : H2.get? H1.objs.size = some (lst []) := hH2 ▸ Heap.get?_push_size _ rfl
  have F1 := F.keeps k1
  have F2 := F1.keeps k2
  have lv : Live h₀ env.locals m news s.heap.objs.size H2.objs.size H1.objs.size { cls := .type "list_iterator", data := .fields #[.ref ax, .int 0 0] } _ [] h₁ :=
    ⟨F2.keeps k3, ((N.grown k1).grown k2).grown k3, k3 _ _ (k2 _ _ eI), hns₁, k3 _ _ eD⟩
  have iL := F.ns.lt
  have nL : ∀ q : Addr, q < s.heap.objs.size → q ≠ s.heap.objs.size ∧ q ≠ H2.objs.size ∧ q ≠ H1.objs.size := fun q hq => ⟨Nat.ne_of_lt hq, by rw [z2]; exact Nat.ne_of_lt (Nat.lt_succ_of_lt (Nat.lt_succ_of_lt hq)), by rw [z1]; exact Nat.ne_of_lt (Nat.lt_succ_of_lt hq)⟩
  have nIC : s.heap.objs.size ≠ H2.objs.size := by rw [z2]; exact Nat.ne_of_lt (Nat.lt_succ_of_lt (Nat.lt_succ_self _))
  have nID : s.heap.objs.size ≠ H1.objs.size := by rw [z1]; exact Nat.ne_of_lt (Nat.lt_succ_self _)
  have nCD : H2.objs.size ≠ H1.objs.size := by rw [z1, z2]; exact Ne.symm (Nat.ne_of_lt (Nat.lt_succ_self _))
  have fr : ∀ q ∈ [s.heap.objs.size, H2.objs.size, H1.objs.size], q ≠ env.locals ∧ h₀.get? q = none := by
    intro q hq
    simp only [List.mem_cons, List.not_mem_nil, or_false] at hq
    rcases hq with rfl | rfl | rfl
    · exact ⟨Ne.symm (nL _ iL).1, next_is_new F⟩
    · exact ⟨Ne.symm (nL _ iL).2.1, next_is_new F2⟩
    · exact ⟨Ne.symm (nL _ iL).2.2, next_is_new F1⟩
  have ltn : ∀ p ∈ news, p.1 < s.heap.objs.size := fun p hp => Heap.lt_size (N p hp).1
  have off : ∀ p ∈ news, p.1 ∉ [s.heap.objs.size, H2.objs.size, H1.objs.size] := by
    intro p hp hm
    simp only [List.mem_cons, List.not_mem_nil, or_false] at hm
    have := nL _ (ltn p hp)
    rcases hm with e | e | e
    · exact this.1 e
    · exact this.2.1 e
    · exact this.2.2 e
  have fC := fr H2.objs.size (by simp)
  have fD := fr H1.objs.size (by simp)
  have loop : ∀ s₃ : Shared, s₃ = { s with heap := h₁, toks := s.toks + ([] : List (Str × Value)).length } →
      codeAny (model prog w) A (.compLoop (.ListComp elt [⟨.Name x px, iter, [], 0⟩, ⟨.Name x₂ px₂, iter2, [], 0⟩] scope pos) 0 (.ref s.heap.objs.size) (.ref H1.objs.size) (compEnvC scope cl H2.objs.size env))
        (compPost (model prog w) A E (some (assign (.Name y py) env)) (fun _ s' => Q .next s') (.ref H1.objs.size) H2.objs.size) s₃ := by
    rintro s₃ rfl
    refine block_N hh hkind hx hx₂ hne hz hax lv nIC nID nCD fr off (hit _) (hs2 _) (ea _) (eb _) fun h' tk' m₂ F' N' hn hD => ?_
    have fin : ∀ h'' tk'', Fr h₀ env.locals h'' (fun z => if z = y then some (.ref H1.objs.size) else m z) → News h₀ env.locals h'' ((H1.objs.size, lst (flat2 f its.length)) :: news) → Q .next { s with heap := h'', toks := tk'' } := fun h'' tk'' F'' N'' => h _ _ _ F'' N'' fun p hp => by rw [z1]; exact Nat.lt_succ_of_lt (ltn p hp)
    show wpAny _ A (assign (.Name y py) env (.ref H1.objs.size)) _ _ _
    refine wpAny_assign_Name (wpAny_storeName_local hy F'.ns (fun h₂ hn₂ hs₂ => ?_) hp)
    have hL₀ : h₀.get? env.locals = none := Heap.get?_none_of_le F'.above
    have F₂ : Fr h₀ env.locals h₂ (fun z => if z = y then some (.ref H1.objs.size) else m z) := ⟨hn₂, fun b o e => hs₂.extBut b o (fun q => by rw [q, hL₀] at e; cases e) (F'.keep b o e), F'.above⟩
    refine ⟨m₂, hn.sameBut hs₂ fC.1, fun h'' hs'' => fin h'' _ (F₂.change hs'' fC.1 fC.2) (fun p hp => ?_)⟩
    rcases List.mem_cons.mp hp with rfl | hp
    · exact ⟨hs''.extBut _ _ (Ne.symm nCD) (hs₂.extBut _ _ fD.1 hD), fD⟩
    · exact ⟨hs''.extBut _ _ (fun e => off p hp (by simp [e])) (hs₂.extBut _ _ (N' p hp).2.1 (N' p hp).1), (N' p hp).2⟩
  exact codeAny_compStart_list (loop _ rfl) (wpAny_pyIter_listiter ⟨_, k3 _ _ (k2 _ _ eI), rfl, rfl⟩ (loop _ rfl))
end

/-! a list comprehension whose element is read and nothing changed -/
open LCg in
section
variable {prog : Program} {w : World} {A : Around} {E : Value → Shared → Prop} {s : Shared} {h₀ : Heap} {L : Addr} {m : Str → Option Value} {env : Env}
noncomputable def EltP (prog : Program) (w : World) (A : Around) (h₀ : Heap) (L : Addr) (m : Str → Option Value) (env : Env) (elt : PySem.Expr) (x : Str) (scope : Scope) (cl : List (Str × Addr)) (s : Shared) (news : Led) (v : Value) (G : Value → Prop) : Prop :=
  ∀ C oC m₂ h tk led (E' : Value → Shared → Prop), NsObj oC m₂ → m₂ x = some v → Fr h₀ L h m → News h₀ L h led → (C, oC) ∈ led → (∀ p ∈ news, p ∈ led) →
    wpAny (model prog w) A (eval elt (compEnvC scope cl C env)) (fun r s' => G r ∧ ∃ h' tk', s' = { s with heap := h', toks := tk' } ∧ Fr h₀ L h' m ∧ News h₀ L h' led) E' { s with heap := h, toks := tk }
theorem rest_pure {elt : PySem.Expr} {x : Str} {scope : Scope} {cl : List (Str × Addr)} {S : Led → Prop} {P : Nat → Value → Prop} {Fin : List Value → Led → Prop} {news : Led} {G : Nat → Value → Prop} {n : Nat} (hS : S news)
    (hel : ∀ i v, P i v → EltP prog w A h₀ L m env elt x scope cl s news v (G i)) (fin : ∀ ys : List Value, ys.length = n → (∀ i y, ys[i]? = some y → G i y) → Fin ys news) :
    ∀ k i (ys : List Value), i + k = n → ys.length = i → (∀ i y, ys[i]? = some y → G i y) → CompRest prog w A h₀ L m env elt x scope cl s S P Fin k i ys news := by
  intro k
  induction k with
  | zero => exact fun i ys e1 e2 e3 => fin ys (by omega) e3
  | succ k ih =>
    intro i ys e1 e2 e3 v I oI C oC D m₂ h tk E' hP hoC hx F N off _
    refine wpAny_mono (hel i v hP C oC m₂ h tk _ E' hoC hx F N (.tail _ (.head _)) fun p hp => .tail _ (.tail _ (.tail _ hp))) ?_ fun _ _ q => q
    rintro r s' ⟨hG, h', tk', rfl, F', N'⟩
    refine ⟨h', tk', news, rfl, F', N', off, hS, ih (i + 1) (ys ++ [r]) (by omega) (by simp [e2]) fun j y hj => ?_⟩
    by_cases hlt : j < ys.length
    · rw [List.getElem?_append_left hlt] at hj; exact e3 j y hj
    · rw [List.getElem?_append_right (by omega)] at hj
      have : j = ys.length := by
        have := (List.getElem?_eq_some_iff.mp hj).1
        simp at this; omega
      subst this
      simp at hj
      subst hj
      exact e2 ▸ hG
theorem ListComp_P1 {elt iter : PySem.Expr} {x : Str} {px : Pos} {scope : Scope} {cl : List (Str × Addr)} {pos : Pos} {Q : Value → Shared → Prop} {news : Led} {ax : Addr} {its : List Value} {c : Nat} {G : Nat → Value → Prop} (F : Fr h₀ L s.heap m) (N : News h₀ L s.heap news) (hax : (ax, listOf its.toArray c) ∈ news) (hz : its.length ≤ sizeLine) (hh : A.handled = none)
    (hclos : closureFor scope env = pure cl) (hcell : ∀ y ∈ scope.names, y.2 ≠ .cell) (hkind : scope.kind = .function)
    (hnames : ∀ y ∈ scope.names, y.2 = .local → scope.names.lookup y.1 = some .local) (hx : scope.names.lookup x = some .local)
    (hiter : ∀ (Q : Value → Shared → Prop), Q (.ref ax) s → wpAny (model prog w) A (eval iter env) Q E s)
    (hel : ∀ g i v, its[i]? = some v → EltP prog w A h₀ L m env elt x scope cl { s with heap := g } news v (G i))
    (h : ∀ D h' tk' ys, ys.length = its.length → (∀ i y, ys[i]? = some y → G i y) → Fr h₀ L h' m → News h₀ L h' ((D, lst ys) :: news) → Off1 D news → Q (.ref D) { s with heap := h', toks := tk' })
    (hs : ∀ x, foldedSetIterable iter env x = pure x := by intro _; rfl) :
    wpAny (model prog w) A (eval (.ListComp elt [⟨.Name x px, iter, [], 0⟩] scope pos) env) Q E s :=
  ListComp_U F hclos hcell hkind hnames hx (hiter _ (CompSrc.ledger hh F N hax (by simpa using hz) fun g => rest_pure (.inr ⟨_, hax, rfl, _, rfl⟩) (fun i v hv => hel g i v (by simpa using hv))
    (fun ys e1 e2 D h' tk' F' N' o => h D h' tk' ys (by simpa using e1) e2 F' N' o) _ 0 [] (Nat.zero_add _) rfl (fun _ _ e => by simp at e))) hs
end

noncomputable def Refs (g : List Nd) (σ : List Nat) (its : List Value) : Prop := its.length = σ.length ∧ ∀ j i : Nat, σ[j]? = some i → ∃ n : Nd, g[i]? = some n ∧ its[j]? = some (Value.ref n.x)
noncomputable def Lk (g : List Nd) (v : Value) (z : Int) : Prop := (∃ t, v = .str "" t ∧ z = 0) ∨ ∃ (j : Nat) (n : Nd), g[j]? = some n ∧ v = Value.ref n.x ∧ z = n.num
noncomputable def EltEnd (h₀ : Heap) (L : Addr) (m : Str → Option Value) (s : Shared) (led : Led) (G : Value → Prop) (r : Value) (s' : Shared) : Prop := G r ∧ ∃ h' tk', s' = { s with heap := h', toks := tk' } ∧ Fr h₀ L h' m ∧ News h₀ L h' led
theorem EltEnd.intro {h₀ h' : Heap} {L : Addr} {m : Str → Option Value} {s : Shared} {led : Led} {G : Value → Prop} {r : Value} {tk' : Nat} (hg : G r) (F : Fr h₀ L h' m) (N : News h₀ L h' led) : EltEnd h₀ L m s led G r { s with heap := h', toks := tk' } := ⟨hg, h', tk', rfl, F, N⟩
theorem tup2 {prog : Program} {w : World} {A : Around} {E : Value → Shared → Prop} {s : Shared} {env : Env} {a b : Str} {k k1 k2 : Nat} {p p1 p2 : Pos} {Q : Value → Shared → Prop} (h : ∀ t1 t2 tk, Q (.ref s.heap.objs.size) { s with heap := s.heap.push (tupO [.str a t1, .str b t2]), toks := tk }) :
    wpAny (model prog w) A (eval (.Tuple [.Constant (.str a) k1 p1, .Constant (.str b) k2 p2] k p) env) Q E s :=
  Tuple_ (spliced_more (Constant_str (spliced_more (Constant_str (spliced_none (wpAny_newTuple (h _ _ _) (by show 2 ≤ sizeLine; rw [sizeLine_eq]; decide)))))))
noncomputable def lkOf (μ : Nat → Mu) (σ : List Nat) (i : Nat) (b : Bool) : Value := match σ[i]? with
  | some j => bif b then (μ j).r else (μ j).l
  | none => .none
theorem refs_at {g : List Nd} {σ : List Nat} {its : List Value} {i : Nat} {v : Value} (hr : Refs g σ its) (hv : its[i]? = some v) : ∃ (j : Nat) (n : Nd), σ[i]? = some j ∧ g[j]? = some n ∧ v = .ref n.x := by
  have hl := (List.getElem?_eq_some_iff.mp hv).1
  rw [hr.1] at hl
  obtain ⟨n, h1, h2⟩ := hr.2 i _ (List.getElem?_eq_getElem hl)
  exact ⟨_, n, List.getElem?_eq_getElem hl, h1, Option.some.inj (hv.symm.trans h2)⟩
noncomputable def lkZ (za zb : Nat → Int) (σ : List Nat) (k : Nat) : Int := match σ[k / 2]? with
  | some j => if k % 2 = 0 then za j else zb j
  | none => 0
theorem flat2_at (f : Nat → Bool → Value) : ∀ (n k : Nat), k < 2 * n → (flat2 f n)[k]? = some (f (k / 2) (decide (k % 2 = 1)))
  | 0, k, h => by omega
  | n + 1, k, h => by
    unfold flat2
    by_cases hk : k < 2 * n
    · rw [List.getElem?_append_left (by rw [flat2_len]; exact hk)]; exact flat2_at f n k hk
    · rw [List.getElem?_append_right (by rw [flat2_len]; omega), flat2_len]
      have : k = 2 * n ∨ k = 2 * n + 1 := by omega
      rcases this with rfl | rfl
      · rw [show 2 * n - 2 * n = 0 by omega, show 2 * n / 2 = n by omega, show 2 * n % 2 = 0 by omega]; rfl
      · rw [show 2 * n + 1 - 2 * n = 1 by omega, show (2 * n + 1) / 2 = n by omega, show (2 * n + 1) % 2 = 1 by omega]; rfl
theorem lk_at {g : List Nd} {μ : Nat → Mu} {σ : List Nat} {its : List Value} {za zb : Nat → Int} {i : Nat} {v : Value} (hr : Refs g σ its) (ha : ∀ i ∈ σ, Lk g (μ i).l (za i)) (hb : ∀ i ∈ σ, Lk g (μ i).r (zb i)) (hv : (flat2 (lkOf μ σ) its.length)[i]? = some v) : Lk g v (lkZ za zb σ i) := by
  have hl := (List.getElem?_eq_some_iff.mp hv).1
  rw [flat2_len] at hl
  rw [flat2_at _ _ _ hl] at hv
  have hj : i / 2 < σ.length := by rw [← hr.1]; omega
  have hm := List.getElem_mem hj
  have e := List.getElem?_eq_getElem hj
  have hv := Option.some.inj hv
  unfold lkOf at hv
  rw [e] at hv
  unfold lkZ
  rw [e]
  by_cases h1 : i % 2 = 1
  · rw [decide_eq_true h1] at hv; simp only [cond_true] at hv
    rw [← hv]; simp only [if_neg (show ¬ i % 2 = 0 by omega)]; exact hb _ hm
  · rw [decide_eq_false h1] at hv; simp only [cond_false] at hv
    rw [← hv]; simp only [if_pos (show i % 2 = 0 by omega)]; exact ha _ hm
noncomputable def LinksP (σ : List Nat) (za zb : Nat → Int) (k : Nat) (news : Led) (r : Value) (nw : Led) : Prop :=
  ∃ (D : Addr) (ys : List Value) (c : Nat), r = .ref D ∧ ys.length = 2 * k ∧ (∀ i y, ys[i]? = some y → ∃ z tz, y = Value.int z tz ∧ lkZ za zb σ i = z) ∧ (∀ p ∈ news, p.1 ≠ D) ∧ nw = (D, listOf ys.toArray c) :: news
theorem off1_mem {D : Addr} : ∀ {l : Led}, LCg.Off1 D l → ∀ p ∈ l, p.1 ≠ D
  | [], _, _, h => nomatch h
  | _ :: _, x, p, h => by
    rcases List.mem_cons.mp h with rfl | h
    · exact x.1
    · exact off1_mem x.2 p h
theorem links_call {w : World} {g : List Nd} {μ : Nat → Mu} {σ : List Nat} {its : List Value} {tx : Addr} {c : Nat} {news : Led} {za zb : Nat → Int} (hs : ∀ p ∈ nl w.params 0 g μ, p ∈ news) (ht : (tx, listOf its.toArray c) ∈ news) (hr : Refs g σ its) (hz : its.length ≤ 100)
    (ha : ∀ i ∈ σ, Lk g (μ i).l (za i)) (hb : ∀ i ∈ σ, Lk g (μ i).r (zb i)) :
    Call w 367 [.ref tx] 12 news (LinksP σ za zb its.length news) := by
  w_top off
  unfold Call
  k_fill
  intro mean mg mb dp un gd cn cs a ccd cl outer A₀ base h₀ L m s Q E B F X N T' hk hdp hu ret
  have hz2 : 2 * its.length + 2 ≤ sizeLine := by rw [sizeLine_eq]; omega
  refine wpAny_call ?_
  k_dflt ktr_enter
  iterate 2 walk1
  k_dflt (refine' Assign_ListComp_N (a := "LEFT") (b := "RIGHT") (f := lkOf μ σ) ?F ?N ht hz2 ?hL (by with_unfolding_all rfl) ?hiter (by rfl) (by rfl) (by decide) (by rfl) (by decide) (by rfl) (by rfl) (by decide) (by rfl) (by rfl) (fun C s Q E h => tup2 h) (by intro _ _; rfl) ?ea ?eb ?h)
  case F => k_asm
  case N => k_asm
  case hL => rfl
  case hiter => intro Q' hq; k_dflt (refine ld (by k_asm) (by rfl) hq)
  case ea =>
    intro C i v t hv oC m₂ h tk led E' hoC hx hsx F' N' hC hsub
    obtain ⟨j, n, hj, hn, rfl⟩ := refs_at hr hv
    have e1 : lkOf μ σ i false = (μ j).l := by simp [lkOf, hj]
    have hsub' : ∀ p ∈ nl w.params 0 g μ, p ∈ led := fun p hp => hsub p (hs p hp)
    rw [e1]
    refine wpAny_mono (Q := EltEnd _ _ _ s led (· = (μ j).l)) ?_ (fun _ _ h => h) (fun _ _ h => h)
    k_steps
    exact EltEnd.intro rfl (by k_asm) (by k_asm)
  case eb =>
    intro C i v t hv oC m₂ h tk led E' hoC hx hsx F' N' hC hsub
    obtain ⟨j, n, hj, hn, rfl⟩ := refs_at hr hv
    have e1 : lkOf μ σ i true = (μ j).r := by simp [lkOf, hj]
    have hsub' : ∀ p ∈ nl w.params 0 g μ, p ∈ led := fun p hp => hsub p (hs p hp)
    rw [e1]
    refine wpAny_mono (Q := EltEnd _ _ _ s led (· = (μ j).r)) ?_ (fun _ _ h => h) (fun _ _ h => h)
    k_steps
    exact EltEnd.intro rfl (by k_asm) (by k_asm)
  case h =>
    intro D h1 tk1 F1 N1 l1
    (try dsimp only)
    iterate 2 walk1
    k_dflt (refine' ListComp_P1 (G := fun i y => ∃ z tz, y = .int z tz ∧ lkZ za zb σ i = z) ?F ?N (.head _) ?hz rfl (by rfl) (by decide) (by rfl) (by decide) (by rfl) ?hiter ?hel ?h)
    case F => k_asm
    case N => k_asm
    case hz => rw [flat2_len]; omega
    case hiter => intro Q' hq; k_dflt (refine ld (by k_asm) (by rfl) hq)
    case hel =>
      intro gh i v hv C oC m₂ h tk led E' hoC hx F' N' hC hsub
      have hsub' : ∀ p ∈ nl w.params 0 g μ, p ∈ led := fun p hp => hsub p (.tail _ (hs p hp))
      have hlk := lk_at hr ha hb hv
      refine wpAny_mono (Q := EltEnd _ _ _ _ led (fun y => ∃ z tz, y = .int z tz ∧ lkZ za zb σ i = z)) ?_ (fun _ _ h => h) (fun _ _ h => h)
      rcases hlk with ⟨t, rfl, hz0⟩ | ⟨j, n, hn, rfl, hz0⟩
      · k_steps
        exact EltEnd.intro ⟨_, _, rfl, hz0⟩ (by k_asm) (by k_asm)
      · have h0 : 0 + j = j := Nat.zero_add j
        have hi := hsub' _ (mem_nl (p := (n.x, instObj 225 n.dx)) (i := 0) hn (.head _))
        have hdd := hsub' _ (mem_nl (p := (n.dx, ndDict w.params n (μ j).mkv)) (i := 0) hn (by rw [h0]; exact .tail _ (.head _)))
        k_steps
        exact EltEnd.intro ⟨_, _, rfl, hz0⟩ (by k_asm) (by k_asm)
    case h =>
      intro D2 h2 tk2 ys hl hG F2 N2 o2
      k_steps
      have o3 := off1_mem o2
      exact ret _ _ _ _ ⟨D2, ys, _, rfl, by rw [hl, flat2_len], hG, fun p hp => o3 p (.tail _ hp), rfl⟩ (by k_asm) (news_sub (by k_asm) (sub_both (.head _) fun p hp => .tail _ (.tail _ hp)))
/-- the calls at which the walk is to stop -/
noncomputable def stopsL : List Nat := [280, 298, 312, 324, 331, 336, 341, 362, 367, 374, 381, 388]
theorem stop_call {prog : Program} {w : World} {A : Around} {a : Addr} {args : List Value} {kw : List (Str × Value)} {Q E : Value → Shared → Prop} {s : Shared} (_ha : stopsL.contains a = true) (h : LoopHere (wpAny (model prog w) A (call (.ref a) args kw) Q E s)) : wpAny (model prog w) A (call (.ref a) args kw) Q E s := h

local macro_rules | `(tactic| walk_at "call ref") => `(tactic| (k_here; refine stop_call (by decide) ?_))

/-! the tree's plain facts: a hole, and what lies left and right of it -/
noncomputable def cl : Cx → List Nat
  | .top => []
  | .l c _ _ => cl c
  | .r l i c => cl c ++ (l.idx ++ [i])
noncomputable def cr : Cx → List Nat
  | .top => []
  | .l c i r => i :: r.idx ++ cr c
  | .r _ _ c => cr c
theorem plug_idx : ∀ (c : Cx) (S : Tr), (plug c S).idx = cl c ++ (S.idx ++ cr c)
  | .top, S => by simp [plug, cl, cr]
  | .l c i r, S => by simp [plug, cl, cr, plug_idx c, Tr.idx]
  | .r l i c, S => by simp [plug, cl, cr, plug_idx c, Tr.idx]
theorem isT_frame {g : List Nd} {μ μ' : Nat → Mu} {v : Value} {T : Tr} (h : IsT g μ v T) : (∀ j ∈ T.idx, (μ' j).l = (μ j).l ∧ (μ' j).r = (μ j).r) → IsT g μ' v T := by
  induction h with
  | nil => exact fun _ => .nil
  | @node i n l r e _ _ ihl ihr =>
    intro ha
    have hi := ha i (by simp [Tr.idx])
    refine .node e ?_ ?_
    · rw [hi.1]; exact ihl fun j hj => ha j (by simp [Tr.idx, hj])
    · rw [hi.2]; exact ihr fun j hj => ha j (by simp [Tr.idx, hj])
theorem isT_grow {g : List Nd} {μ : Nat → Mu} {v : Value} {T : Tr} (k : List Nd) (h : IsT g μ v T) : IsT (g ++ k) μ v T := by
  induction h with
  | nil => exact .nil
  | node e _ _ ihl ihr => exact .node (by rw [List.getElem?_append_left (List.getElem?_eq_some_iff.mp e).1]; exact e) ihl ihr
theorem isT_inj {g : List Nd} {μ : Nat → Mu} {v : Value} {T : Tr} (h : IsT g μ v T) : ∀ j ∈ T.idx, j < g.length := by
  induction h with
  | nil => intro j hj; simp [Tr.idx] at hj
  | node e _ _ ihl ihr =>
    intro j hj
    simp only [Tr.idx, List.mem_append, List.mem_cons] at hj
    rcases hj with hj | rfl | hj
    · exact ihl j hj
    · exact (List.getElem?_eq_some_iff.mp e).1
    · exact ihr j hj
theorem slotI_in : ∀ (c : Cx), slotI c = 0 ∨ slotI c ∈ cl c ++ cr c
  | .top => .inl rfl
  | .l c i r => .inr (by simp [slotI, cr])
  | .r l i c => .inr (by simp [slotI, cl])
theorem slot_off {c : Cx} {S : Tr} (h : (0 :: (cl c ++ (S.idx ++ cr c))).Nodup) : slotI c ∉ S.idx := by
  obtain ⟨h1, h2⟩ := List.nodup_cons.mp h
  obtain ⟨_, h3, h4⟩ := List.nodup_append.mp h2
  obtain ⟨_, _, h5⟩ := List.nodup_append.mp h3
  intro hm
  rcases slotI_in c with e | e
  · exact h1 (e ▸ List.mem_append.mpr (.inr (List.mem_append.mpr (.inl hm))))
  · rcases List.mem_append.mp e with e | e
    · exact h4 _ e _ (List.mem_append.mpr (.inl hm)) rfl
    · exact h5 _ hm _ e rfl
theorem nd_mid {c : Cx} {S : Tr} (h : (0 :: (cl c ++ (S.idx ++ cr c))).Nodup) : S.idx.Nodup := (List.nodup_append.mp (List.nodup_append.mp (List.nodup_cons.mp h).2).2.1).1
theorem nd_left {l r : Tr} {i s : Nat} (h : (Tr.node l i r).idx.Nodup) (hs : s ∉ (Tr.node l i r).idx) : i ≠ s ∧ i ∉ l.idx ∧ i ∉ r.idx ∧ s ∉ l.idx ∧ ∀ j ∈ r.idx, j ∉ l.idx := by
  have h' : (l.idx ++ i :: r.idx).Nodup := h
  have hs' : s ∉ l.idx ++ i :: r.idx := hs
  obtain ⟨_, h2, h3⟩ := List.nodup_append.mp h'
  exact ⟨fun e => hs' (List.mem_append.mpr (.inr (e ▸ .head _))), fun hm => h3 i hm i (.head _) rfl, (List.nodup_cons.mp h2).1, fun hm => hs' (List.mem_append.mpr (.inl hm)), fun j hj hl => h3 j hl j (.tail _ hj) rfl⟩
theorem nd_right {l r : Tr} {i s : Nat} (h : (Tr.node l i r).idx.Nodup) (hs : s ∉ (Tr.node l i r).idx) : i ≠ s ∧ i ∉ r.idx ∧ i ∉ l.idx ∧ s ∉ r.idx ∧ ∀ j ∈ l.idx, j ∉ r.idx := by
  have h' : (l.idx ++ i :: r.idx).Nodup := h
  have hs' : s ∉ l.idx ++ i :: r.idx := hs
  obtain ⟨_, h2, h3⟩ := List.nodup_append.mp h'
  exact ⟨fun e => hs' (List.mem_append.mpr (.inr (e ▸ .head _))), (List.nodup_cons.mp h2).1, fun hm => h3 i hm i (.head _) rfl, fun hm => hs' (List.mem_append.mpr (.inr (.tail _ hm))), fun j hj hl => h3 j hj j (.tail _ hl) rfl⟩
/-- a tree at a hole, turned -/
theorem isT_replug {g : List Nd} {μ μ' : Nat → Mu} : ∀ {c : Cx} {S S' : Tr}, IsT g μ (μ 0).r (plug c S) → (0 :: (plug c S).idx).Nodup → (∃ n0, g[0]? = some n0) →
    (∀ j (f : Fd), f ≠ .K → j ∉ S.idx → ¬ (j = slotI c ∧ f = slotF c) → (μ' j).get f = (μ j).get f) → IsT g μ' ((μ' (slotI c)).get (slotF c)) S' → IsT g μ' (μ' 0).r (plug c S')
  | .top, S, S', _, _, _, _, h' => h'
  | .l c i r, S, S', h, nd, e0, ag, h' => by
    obtain ⟨n0, e0'⟩ := e0
    obtain ⟨h1, _⟩ := isT_plug e0' (c := c) (S := .node S i r) h
    have nd' : (0 :: (cl c ++ ((Tr.node S i r).idx ++ cr c))).Nodup := by rw [← plug_idx]; exact nd
    have hi := nd_left (nd_mid nd') (slot_off nd')
    have hs : (μ' (slotI c)).get (slotF c) = (μ (slotI c)).get (slotF c) := ag _ _ (by cases c <;> simp [slotF]) hi.2.2.2.1 fun q => hi.1 q.1.symm
    refine isT_replug (c := c) (S := .node S i r) (S' := .node S' i r) h nd ⟨n0, e0'⟩ (fun j f hf hj _ => ag j f hf (by simp [Tr.idx] at hj; exact hj.1) fun q => by simp [Tr.idx, slotI] at hj q; exact hj.2.1 q.1) ?_
    rw [hs]
    generalize (μ (slotI c)).get (slotF c) = v at h1
    cases h1 with
    | node e hl hr =>
      refine .node e h' ?_
      have : (μ' i).r = (μ i).r := ag i .R (by simp) hi.2.1 (by simp [slotF])
      rw [this]
      refine isT_frame hr fun j hj => ⟨ag j .L (by simp) (hi.2.2.2.2 j hj) ?_, ag j .R (by simp) (hi.2.2.2.2 j hj) ?_⟩
      · rintro ⟨rfl, _⟩; exact hi.2.2.1 hj
      · rintro ⟨rfl, _⟩; exact hi.2.2.1 hj
  | .r l i c, S, S', h, nd, e0, ag, h' => by
    obtain ⟨n0, e0'⟩ := e0
    obtain ⟨h1, _⟩ := isT_plug e0' (c := c) (S := .node l i S) h
    have nd' : (0 :: (cl c ++ ((Tr.node l i S).idx ++ cr c))).Nodup := by rw [← plug_idx]; exact nd
    have hi := nd_right (nd_mid nd') (slot_off nd')
    have hs : (μ' (slotI c)).get (slotF c) = (μ (slotI c)).get (slotF c) := ag _ _ (by cases c <;> simp [slotF]) hi.2.2.2.1 fun q => hi.1 q.1.symm
    refine isT_replug (c := c) (S := .node l i S) (S' := .node l i S') h nd ⟨n0, e0'⟩ (fun j f hf hj _ => ag j f hf (by simp [Tr.idx] at hj; exact hj.2.2) fun q => by simp [Tr.idx, slotI] at hj q; exact hj.2.1 q.1) ?_
    rw [hs]
    generalize (μ (slotI c)).get (slotF c) = v at h1
    cases h1 with
    | node e hl hr =>
      refine .node e ?_ h'
      have : (μ' i).l = (μ i).l := ag i .L (by simp) hi.2.1 (by simp [slotF])
      rw [this]
      refine isT_frame hl fun j hj => ⟨ag j .L (by simp) (hi.2.2.2.2 j hj) ?_, ag j .R (by simp) (hi.2.2.2.2 j hj) ?_⟩
      · rintro ⟨rfl, _⟩; exact hi.2.2.1 hj
      · rintro ⟨rfl, _⟩; exact hi.2.2.1 hj

/-! the state of the tree: told by one structure -/
noncomputable def refs (g : List Nd) : List Value := g.map fun n => Value.ref n.x
theorem refs_at2 {g : List Nd} {j : Nat} {n : Nd} (e : g[j]? = some n) : (refs g)[j]? = some (.ref n.x) := by unfold refs; rw [List.getElem?_map, e]; rfl
structure Gr (g : List Nd) (μ : Nat → Mu) (T : Tr) (kf : Nat → Int) (n : Nat) : Prop where
  len : g.length = n + 1
  num : ∀ (j : Nat) (d : Nd), g[j]? = some d → d.num = (j : Int) + 1
  key : ∀ j : Nat, 1 ≤ j → j ≤ n → ∃ t, (μ j).k = .int (kf j) t
  tree : IsT g μ (μ 0).r T
  all : ∀ j, j ∈ T.idx ↔ 1 ≤ j ∧ j ≤ n
  nd : T.idx.Nodup
  sorted : (T.idx.map kf).Pairwise (· < ·)
  l0 : ∃ t, (μ 0).l = .str "" t
  k0 : ∃ t, (μ 0).k = .str "" t
theorem Gr.nd0 {g : List Nd} {μ : Nat → Mu} {T : Tr} {kf : Nat → Int} {n : Nat} (G : Gr g μ T kf n) : (0 :: T.idx).Nodup :=
  List.nodup_cons.mpr ⟨fun h => by have := (G.all 0).mp h; omega, G.nd⟩
theorem Tr.idx_len : ∀ T : Tr, T.idx.length = T.size
  | .nil => rfl
  | .node l i r => by simp only [Tr.idx, Tr.size, List.length_append, List.length_cons, Tr.idx_len l, Tr.idx_len r]; omega
theorem idx_perm {T : List Nat} {n : Nat} (nd : T.Nodup) (all : ∀ j, j ∈ T ↔ 1 ≤ j ∧ j ≤ n) : T.Perm (List.range' 1 n) := by
  refine (List.perm_ext_iff_of_nodup nd (List.nodup_range' (step := 1))).mpr fun a => ?_
  rw [all, List.mem_range'_1]; omega
theorem Gr.size {g : List Nd} {μ : Nat → Mu} {T : Tr} {kf : Nat → Int} {n : Nat} (G : Gr g μ T kf n) : T.size = n := by
  rw [← Tr.idx_len, (idx_perm G.nd G.all).length_eq, List.length_range']
theorem put_get_same {μ : Nat → Mu} {i : Nat} {f : Fd} {v : Value} : (put μ i f v i).get f = v := by
  unfold put; rw [setMu_same]; cases f <;> rfl
theorem put_get_ne {μ : Nat → Mu} {i j : Nat} {f e : Fd} {v : Value} (h : ¬ (j = i ∧ e = f)) : (put μ i f v j).get e = (μ j).get e := by
  unfold put
  by_cases hj : j = i
  · subst hj
    rw [setMu_same]
    cases f <;> cases e <;> first | rfl | exact absurd ⟨rfl, rfl⟩ h
  · rw [setMu_ne μ _ hj]
theorem put_l {μ : Nat → Mu} {i j : Nat} {f : Fd} {v : Value} (h : ¬ (j = i ∧ Fd.L = f)) : (put μ i f v j).l = (μ j).l := put_get_ne (e := .L) h
theorem put_r {μ : Nat → Mu} {i j : Nat} {f : Fd} {v : Value} (h : ¬ (j = i ∧ Fd.R = f)) : (put μ i f v j).r = (μ j).r := put_get_ne (e := .R) h
theorem put_k {μ : Nat → Mu} {i j : Nat} {f : Fd} {v : Value} (h : Fd.K ≠ f) : (put μ i f v j).k = (μ j).k := put_get_ne (e := .K) fun q => h q.2
theorem slotF_ne (c : Cx) : Fd.K ≠ slotF c := by cases c <;> simp [slotF]
theorem slotI_le {c : Cx} {S : Tr} {n : Nat} (h : ∀ j, j ∈ (plug c S).idx ↔ 1 ≤ j ∧ j ≤ n) : slotI c ≤ n := by
  rcases slotI_in c with e | e
  · omega
  · refine ((h (slotI c)).mp ?_).2
    rw [plug_idx]
    simp only [List.mem_append] at e ⊢
    rcases e with e | e <;> simp [e]
theorem pairwise_ins {α : Type} {R : α → α → Prop} {A B : List α} {x : α} (h : (A ++ B).Pairwise R) (h1 : ∀ a ∈ A, R a x) (h2 : ∀ b ∈ B, R x b) : (A ++ x :: B).Pairwise R := by
  obtain ⟨a, b, c⟩ := List.pairwise_append.mp h
  refine List.pairwise_append.mpr ⟨a, List.pairwise_cons.mpr ⟨h2, b⟩, fun y hy z hz => ?_⟩
  rcases List.mem_cons.mp hz with rfl | hz
  · exact h1 y hy
  · exact c y hy z hz
/-- a thing put at an empty place -/
theorem gr_grow {g : List Nd} {μ : Nat → Mu} {c : Cx} {kf : Nat → Int} {n : Nat} {d : Nd} {u : Mu} {t1 t2 t3 : Nat} (G : Gr g μ (plug c .nil) kf n) (hn : d.num = (n : Int) + 2) (hl : u.l = .str "" t1) (hk : u.k = .int (kf (n + 1)) t2) (hr : u.r = .str "" t3)
    (h1 : ∀ j ∈ Mine.cl c, kf j < kf (n + 1)) (h2 : ∀ j ∈ cr c, kf (n + 1) < kf j) :
    Gr (g ++ [d]) (put (setMu μ g.length u) (slotI c) (slotF c) (.ref d.x)) (plug c (.node .nil (n + 1) .nil)) kf (n + 1) := by
  have hs : slotI c ≤ n := slotI_le G.all
  have hgl := G.len
  have hsl : slotI c ≠ g.length := by omega
  have h0 : (0 : Nat) ≠ g.length := by omega
  have hi := G.all
  have hnd := G.nd
  have hso := G.sorted
  rw [plug_idx] at hi hnd hso
  simp only [Tr.idx, List.nil_append] at hi hnd hso
  refine ⟨by simp [hgl], fun j e he => ?_, fun j a b => ?_, ?_, fun j => ?_, ?_, ?_, ?_, ?_⟩
  · by_cases hj : j < g.length
    · rw [List.getElem?_append_left hj] at he; exact G.num j e he
    · have := (List.getElem?_eq_some_iff.mp he).1
      simp at this
      have hjj : j = g.length := by omega
      subst hjj
      simp at he
      subst he
      rw [hn, hgl]; omega
  · rw [put_k (slotF_ne c)]
    by_cases hj : j = g.length
    · subst hj; rw [setMu_same, hk, hgl]; exact ⟨_, rfl⟩
    · rw [setMu_ne μ u hj]; exact G.key j a (by omega)
  · obtain ⟨n0, e0⟩ : ∃ n0, g[0]? = some n0 := ⟨_, List.getElem?_eq_getElem (by omega)⟩
    have hT : IsT (g ++ [d]) (setMu μ g.length u) ((setMu μ g.length u) 0).r (plug c .nil) := by
      rw [setMu_ne μ u h0]
      refine isT_grow [d] (isT_frame G.tree fun j hj => ?_)
      have := isT_inj G.tree j hj
      rw [setMu_ne μ u (by omega)]; exact ⟨rfl, rfl⟩
    refine isT_replug (μ := setMu μ g.length u) (S := .nil) hT G.nd0 ⟨n0, by rw [List.getElem?_append_left (by omega)]; exact e0⟩ (fun j f _ _ q => put_get_ne q) ?_
    rw [put_get_same]
    refine .node (by rw [← hgl]; simp) ?_ ?_
    · rw [put_l fun q => hsl (by omega), ← hgl, setMu_same, hl]; exact .nil
    · rw [put_r fun q => hsl (by omega), ← hgl, setMu_same, hr]; exact .nil
  · rw [plug_idx]
    have := hi j
    simp only [Tr.idx, List.nil_append, List.mem_append, List.mem_cons, List.not_mem_nil, or_false] at this ⊢
    constructor
    · rintro (h | rfl | h)
      · have := this.mp (.inl h); omega
      · omega
      · have := this.mp (.inr h); omega
    · rintro ⟨a, b⟩
      by_cases hj : j = n + 1
      · exact .inr (.inl hj)
      · rcases this.mpr ⟨a, by omega⟩ with h | h
        · exact .inl h
        · exact .inr (.inr h)
  · rw [plug_idx]
    have hno : n + 1 ∉ Mine.cl c ∧ n + 1 ∉ cr c := by
      have := hi (n + 1)
      simp only [List.mem_append] at this
      constructor <;> intro h
      · have := this.mp (.inl h); omega
      · have := this.mp (.inr h); omega
    simp only [Tr.idx, List.nil_append]
    simp only [List.nodup_append, List.nodup_cons, List.mem_append, List.mem_cons, List.not_mem_nil] at hnd ⊢
    grind
  · rw [plug_idx]
    simp only [Tr.idx, List.nil_append, List.cons_append, List.map_append, List.map_cons] at hso ⊢
    refine pairwise_ins hso (fun a ha => ?_) fun b hb => ?_
    · obtain ⟨j, hj, rfl⟩ := List.mem_map.mp ha; exact h1 j hj
    · obtain ⟨j, hj, rfl⟩ := List.mem_map.mp hb; exact h2 j hj
  · obtain ⟨t, h⟩ := G.l0
    rw [put_l (by cases c <;> simp [slotF, slotI]; rename_i cc i r; have := (G.all i).mp (by rw [plug_idx]; simp [cr]); omega), setMu_ne μ u h0]
    exact ⟨t, h⟩
  · obtain ⟨t, h⟩ := G.k0
    rw [put_k (slotF_ne c), setMu_ne μ u h0]
    exact ⟨t, h⟩
theorem bound_l {c : Cx} {l r : Tr} {j : Nat} {kf : Nat → Int} {key : Int} (h : ((plug c (.node l j r)).idx.map kf).Pairwise (· < ·)) (h1 : key < kf j) (h2 : ∀ x ∈ cr c, key < kf x) : ∀ x ∈ cr (.l c j r), key < kf x := by
  rw [plug_idx] at h
  simp only [Tr.idx, List.map_append, List.map_cons, List.append_assoc, List.cons_append] at h
  obtain ⟨_, h, _⟩ := List.pairwise_append.mp h
  obtain ⟨_, h, _⟩ := List.pairwise_append.mp h
  have h3 := (List.pairwise_cons.mp h).1
  intro x hx
  simp only [cr, List.cons_append, List.mem_cons, List.mem_append] at hx
  rcases hx with rfl | hx | hx
  · exact h1
  · exact Int.lt_trans h1 (h3 _ (List.mem_append.mpr (.inl (List.mem_map_of_mem hx))))
  · exact h2 x hx
theorem bound_r {c : Cx} {l r : Tr} {j : Nat} {kf : Nat → Int} {key : Int} (h : ((plug c (.node l j r)).idx.map kf).Pairwise (· < ·)) (h1 : kf j < key) (h2 : ∀ x ∈ Mine.cl c, kf x < key) : ∀ x ∈ Mine.cl (.r l j c), kf x < key := by
  rw [plug_idx] at h
  simp only [Tr.idx, List.map_append, List.map_cons, List.append_assoc, List.cons_append] at h
  obtain ⟨_, h, _⟩ := List.pairwise_append.mp h
  obtain ⟨_, _, h⟩ := List.pairwise_append.mp h
  intro x hx
  simp only [Mine.cl, List.mem_cons, List.mem_append, List.not_mem_nil, or_false] at hx
  rcases hx with hx | hx | rfl
  · exact h2 x hx
  · exact Int.lt_trans (h _ (List.mem_map_of_mem hx) _ (.head _)) h1
  · exact h1
theorem sep_of {P : Params} {g : List Nd} {μ : Nat → Mu} {A : Led} (h : ND (A ++ nl P 0 g μ)) : Sep g := by
  unfold ND at h
  rw [List.map_append, nl_addr] at h
  exact (List.nodup_append.mp h).2.1
theorem off_of {P : Params} {g : List Nd} {μ : Nat → Mu} {A : Led} (h : ND (A ++ nl P 0 g μ)) : ∀ p ∈ A, Off g p.1 := by
  unfold ND at h
  rw [List.map_append, nl_addr] at h
  exact fun p hp hm => (List.nodup_append.mp h).2.2 _ (List.mem_map_of_mem hp) _ hm rfl
theorem isT_nil {g : List Nd} {μ : Nat → Mu} {v : Value} (h : IsT g μ v .nil) : ∃ t, v = .str "" t := by cases h; exact ⟨_, rfl⟩
noncomputable def kOf (ks : List Int) (j : Nat) : Int := ks.getD (j - 1) 0
theorem kOf_at {ks : List Int} {i : Nat} {k : Int} (h : ks[i]? = some k) : kOf ks (i + 1) = k := by unfold kOf; simp [h]
theorem kOf_ne {ks : List Int} {i j : Nat} {k : Int} (nd : ks.Nodup) (h : ks[i]? = some k) (h1 : 1 ≤ j) (h2 : j ≤ i) : kOf ks j ≠ k := by
  have hi := (List.getElem?_eq_some_iff.mp h).1
  have hj : j - 1 < ks.length := by omega
  unfold kOf
  intro e
  have e1 : ks[j - 1]? = some k := by
    rw [List.getD_eq_getElem?_getD, List.getElem?_eq_getElem hj] at e
    rw [List.getElem?_eq_getElem hj, ← e]; rfl
  have := (List.getElem?_inj hj nd).mp (e1.trans h.symm)
  omega
theorem Gr.key' {g : List Nd} {μ : Nat → Mu} {T : Tr} {kf : Nat → Int} {n j : Nat} (G : Gr g μ T kf n) (hj : j ∈ T.idx) : ∃ t, (μ j).get .K = .int (kf j) t := G.key j ((G.all j).mp hj).1 ((G.all j).mp hj).2
theorem mid_in {c : Cx} {l r : Tr} {j : Nat} : j ∈ (plug c (.node l j r)).idx := by rw [plug_idx]; simp [Tr.idx]
theorem app_L {prog : Program} {w : World} {A : Around} {E : Value → Shared → Prop} {s : Shared} {h₀ : Heap} {L D : Addr} {m : Str → Option Value} {news news' : Led} {xs : List Value} {n : Nat} {v : Value} {Q : Value → Shared → Prop} (F : Fr h₀ L s.heap m) (N : News h₀ L s.heap news)
    (U : Upd D (listOf xs.toArray n) (listOf (xs ++ [v]).toArray (n + 1)) news news') (hz : xs.length ≤ sizeLine)
    (h : ∀ h', Fr h₀ L h' m → News h₀ L h' news' → Q .none { s with heap := h' }) : wpAny (model prog w) A (call (.builtin "list.append") [.ref D, v]) Q E s :=
  append_K (its := xs.toArray) F N (by rw [List.push_toArray]; exact U) (fun h' F' N' => h h' F' N') (by simpa using hz)

/-! the growing of the tree -/
structure SameW (W W' : Wo) : Prop where
  x : W'.x = W.x
  st : W'.st = W.st
  wn : W'.wn = W.wn
  td : W'.td = W.td
  rest : W'.rest = W.rest
structure GJ (w : World) (W : Wo) (n0 : Nd) (pre : Led) (ks : List Int) (i : Nat) (nx : Led) (W' : Wo) (g : List Nd) (μ : Nat → Mu) (T : Tr) (D : Addr) (c : Nat) : Prop where
  gr : Gr g μ T (kOf ks) i
  wis : WIs W'
  same : SameW W W'
  hs : W'.hs = refs g
  made : W'.made = (g.length : Int)
  e0 : g[0]? = some n0
  led : nx = (D, listOf (refs g).toArray c) :: (pre ++ (wl W' ++ nl w.params 0 g μ))
  nd : ND nx
structure GM (m : Str → Option Value) (D x x0 : Addr) : Prop where
  things : m (Str.ofString "things") = some (.ref D)
  world : m (Str.ofString "world") = some (.ref x)
  first : m (Str.ofString "first") = some (.ref x0)
theorem refs_len (g : List Nd) : (refs g).length = g.length := by simp [refs]
theorem refs_app (g : List Nd) (n : Nd) : refs (g ++ [n]) = refs g ++ [.ref n.x] := by simp [refs]
theorem nd_cons {p : Addr × Obj} {l : Led} (h : ND l) (h1 : ∀ q ∈ l, q.1 ≠ p.1) : ND (p :: l) := by
  unfold ND at h ⊢
  rw [List.map_cons, List.nodup_cons]
  exact ⟨fun hm => by obtain ⟨q, hq, e⟩ := List.mem_map.mp hm; exact h1 q hq e, h⟩
theorem nd_tail {p : Addr × Obj} {l : Led} (h : ND (p :: l)) : ND l := by unfold ND at h ⊢; rw [List.map_cons] at h; exact (List.nodup_cons.mp h).2
theorem nd_swap {p r : Addr × Obj} {l : Led} (h : ND (p :: r :: l)) : ND (r :: p :: l) := by
  unfold ND at h ⊢
  simp only [List.map_cons, List.nodup_cons, List.mem_cons, not_or] at h ⊢
  exact ⟨⟨fun e => h.1.1 e.symm, h.2.1⟩, h.1.2, h.2.2⟩
theorem news_same {h₀ h : Heap} {L : Addr} {news : Led} {a : Addr} {o o' : Obj} (N : News h₀ L h news) (h1 : (a, o) ∈ news) (h2 : (a, o') ∈ news) : o = o' := Option.some.inj ((N _ h1).1.symm.trans (N _ h2).1)
/-- one thing more -/
theorem gj_step {w : World} {W W' : Wo} {n0 n : Nd} {pre : Led} {ks : List Int} {i : Nat} {nx : Led} {g : List Nd} {μ : Nat → Mu} {D : Addr} {c : Nat} {cx : Cx} {key : Int} {es : List DictEntry} {dn t te t1 t2 : Nat} {u : Mu} {I : Addr} {oI : Obj}
    (G : GJ w W n0 pre ks i nx W' g μ (plug cx .nil) D c) (hkey : ks[i]? = some key) (hn : n.num = W'.made + 1) (hu : u.vals = pad [.str "" t1, .int key t2] (.str "" te))
    (hw : WIs ((W'.putMade es dn (W'.made + 1) t).putHs (W'.hs ++ [Value.ref n.x]) (W'.hn + 1))) (h1 : ∀ j ∈ Mine.cl cx, kOf ks j < key) (h2 : ∀ j ∈ cr cx, key < kOf ks j)
    (hd : ND (((I, oI) :: (D, listOf (refs g).toArray c) :: pre) ++ (wl ((W'.putMade es dn (W'.made + 1) t).putHs (W'.hs ++ [Value.ref n.x]) (W'.hn + 1)) ++ nl w.params 0 (g ++ [n]) (setMu μ g.length u)))) :
    GJ w W n0 pre ks (i + 1) ((D, listOf (refs g ++ [Value.ref n.x]).toArray (c + 1)) :: (pre ++ (wl ((W'.putMade es dn (W'.made + 1) t).putHs (W'.hs ++ [Value.ref n.x]) (W'.hn + 1)) ++ nl w.params 0 (g ++ [n]) (put (setMu μ g.length u) (slotI cx) (slotF cx) (.ref n.x)))))
      ((W'.putMade es dn (W'.made + 1) t).putHs (W'.hs ++ [Value.ref n.x]) (W'.hn + 1)) (g ++ [n]) (put (setMu μ g.length u) (slotI cx) (slotF cx) (.ref n.x)) (plug cx (.node .nil (i + 1) .nil)) D (c + 1) where
  gr := by
    have hk := kOf_at hkey
    unfold pad at hu
    simp only [Mu.vals, List.cons_append, List.nil_append, List.take_succ_cons, List.take_zero, List.cons.injEq, and_true] at hu
    exact gr_grow G.gr (by rw [hn, G.made, G.gr.len]; omega) hu.1 (by rw [hk]; exact hu.2.1) hu.2.2 (by rw [hk]; exact h1) (by rw [hk]; exact h2)
  wis := hw
  same := ⟨G.same.x, G.same.st, G.same.wn, G.same.td, G.same.rest⟩
  hs := by show W'.hs ++ _ = _; rw [G.hs, refs_app]
  made := by show W'.made + 1 = _; rw [G.made, List.length_append, List.length_cons, List.length_nil]; omega
  e0 := by rw [List.getElem?_append_left (by have := G.gr.len; omega)]; exact G.e0
  led := by rw [refs_app]
  nd := by
    refine ND.same (nd_tail hd) ?_
    simp [List.map_append, nl_addr]
theorem gj_off {I D : Addr} {oI o o' : Obj} {l : Led} (h : ND ([(I, oI)] ++ (D, o) :: l)) : ∀ q ∈ (D, o') :: l, q.1 ≠ I := by
  unfold ND at h
  have := (List.nodup_cons.mp h).1
  intro q hq e
  have e' : q.1 = (I, oI).1 := e
  refine this ?_
  show (I, oI).1 ∈ _
  rw [← e']
  rcases List.mem_cons.mp hq with rfl | hq
  · exact .head _
  · exact .tail _ (List.mem_map_of_mem hq)
theorem nd_call {I kx fx vx : Addr} {oI a b : Obj} {nx : Led} (h : ND nx) (hI : ∀ q ∈ nx, q.1 ≠ I) (h1 : I < fx ∧ kx < fx ∧ AllLt fx nx) (h2 : fx < vx ∧ I < vx ∧ kx < vx ∧ AllLt vx nx) : ND ((fx, a) :: (vx, b) :: (I, oI) :: nx) := by
  have a1 := nd_cons (p := (I, oI)) h hI
  have a2 := nd_cons (p := (fx, a)) a1 fun q hq => by
    rcases List.mem_cons.mp hq with rfl | hq
    · exact Nat.ne_of_lt h1.1
    · exact Nat.ne_of_lt (ktn_ltOf h1.2.2 q hq)
  exact nd_swap (nd_cons (p := (vx, b)) a2 fun q hq => by
    rcases List.mem_cons.mp hq with rfl | hq
    · exact Nat.ne_of_lt h2.1
    rcases List.mem_cons.mp hq with rfl | hq
    · exact Nat.ne_of_lt h2.2.1
    · exact Nat.ne_of_lt (ktn_ltOf h2.2.2.2 q hq))
theorem lits {h₀ h : Heap} {L vx fx : Addr} {l1 l2 l3 n2 t1 t2 n1 : Nat} {key : Int} {rest : Led} (N : News h₀ L h ((vx, listOf [Value.str "" t1, Value.int key t2].toArray n1) :: (fx, listOf (fsOf l1 l2 l3).toArray n2) :: rest)) :
    ∃ l1 l2 l3 n2 t1 t2 n1, News h₀ L h ((vx, listOf [Value.str "" t1, Value.int key t2].toArray n1) :: (fx, listOf (fsOf l1 l2 l3).toArray n2) :: rest) := ⟨_, _, _, _, _, _, _, N⟩
noncomputable abbrev WJ (nx : Led) (I kx : Addr) (oI : Obj) (kvs : List Value) (kc : Nat) (g : List Nd) (T : Tr) (D X : Addr) (n0 : Nd) (ks : List Int) (key : Int) (kt : Nat) (n : Nat) (m : Str → Option Value) (nw : Led) : Prop :=
  nw = (I, oI) :: (kx, listOf kvs.toArray kc) :: nx ∧ ∃ c S nO tf, plug c S = T ∧ S.size = n ∧ g[slotI c]? = some nO ∧ m (Str.ofString "owner") = some (.ref nO.x) ∧ m (Str.ofString "field") = some (.str (slotF c).s tf) ∧
    m (Str.ofString "things") = some (.ref D) ∧ m (Str.ofString "world") = some (.ref X) ∧ m (Str.ofString "first") = some (.ref n0.x) ∧ m (Str.ofString "key") = some (.int key kt) ∧ (∀ j ∈ Mine.cl c, kOf ks j < key) ∧ (∀ j ∈ cr c, key < kOf ks j)
noncomputable abbrev FJ (w : World) (W : Wo) (n0 : Nd) (pre : Led) (ks : List Int) (i : Nat) (m : Str → Option Value) (nx : Led) : Prop := ∃ W' g μ T D c, GJ w W n0 pre ks i nx W' g μ T D c ∧ GM m D W'.x n0.x
theorem grown_call {w : World} {W : Wo} {n0 : Nd} {μ0 : Nat → Mu} {pre : Led} {kx : Addr} {kvs : List Value} {ks : List Int} {kc : Nat} (S : WIs W) (hd : ND (pre ++ (wl W ++ nl w.params 0 [n0] μ0))) (hk : (kx, listOf kvs.toArray kc) ∈ pre) (hl : kvs.length = ks.length)
    (hv : ∀ (i : Nat) (v : Value), kvs[i]? = some v → ∃ k t, v = Value.int k t ∧ ks[i]? = some k) (hz : ks.length ≤ 20) (hnd : ks.Nodup) (h0 : Gr [n0] μ0 .nil (kOf ks) 0) (hm : W.made = 1) (hh : W.hs = refs [n0]) :
    Call w 381 [.ref W.x, .ref n0.x, .ref kx] 24 (pre ++ (wl W ++ nl w.params 0 [n0] μ0)) (fun r nw => ∃ D W' g μ T c, r = .ref D ∧ GJ w W n0 pre ks ks.length nw W' g μ T D c) := by
  w_top off
  unfold Call
  k_fill
  intro mean mg mb dp un gd cn cs a ccd cll outer A₀ base h₀ L m s Q E B F X N T0 hkk hdp hu ret
  refine wpAny_call ?_
  k_dflt ktr_enter
  k_steps
  rename Fr _ _ _ _ => lF'
  with_unfolding_all refine' For_invVF lF' ?k1 ?k2 ?_
  case k1 => exact rfl
  case k2 => exact rfl
  k_whole
  k_steps
  apply loop_go
  refine for_list (news := (_, listOf (refs [n0]).toArray _) :: (pre ++ (wl W ++ nl w.params 0 [n0] μ0))) (FJ w W n0 pre ks) rfl (.tail _ (List.mem_append.mpr (.inl hk))) (by k_asm) (by k_asm) ?hj ?turn ?done
  case hj => exact ⟨W, [n0], μ0, .nil, _, _, ⟨h0, S, ⟨rfl, rfl, rfl, rfl, rfl⟩, hh, hm, rfl, rfl, nd_cons hd fun q hq => Nat.ne_of_lt (by rename_i hlt _ _; exact hlt q hq)⟩, rfl, rfl, rfl⟩
  case done =>
    rintro m₁ nx h tk ⟨W', g, μ, T, D, c, G, M⟩ F1 N1
    have hth := M.things
    k_steps
    exact ret _ _ _ _ ⟨D, W', g, μ, T, c, rfl, hl ▸ G⟩ (by k_asm) (by k_asm)
  case turn =>
    rintro i v m₁ nx I oI ol h tk hi ⟨W', g, μ, T, D, c, G, M⟩ hI hIl F1 N1
    have h1 := M.things
    have h2 := M.world
    have h3 := M.first
    have e0 := G.e0
    obtain ⟨key, kt, rfl, hkey⟩ := hv i v hi
    have hil := (List.getElem?_eq_some_iff.mp hkey).1
    have hsub : ∀ p ∈ nl w.params 0 g μ, p ∈ nx := by rw [G.led]; exact fun p hp => .tail _ (List.mem_append.mpr (.inr (List.mem_append.mpr (.inr hp))))
    have hkn : (kx, listOf kvs.toArray kc) ∈ nx := by rw [G.led]; exact .tail _ (List.mem_append.mpr (.inl hk))
    obtain rfl : ol = listOf kvs.toArray kc := news_same N1 (.tail _ (.head _)) (.tail _ (.tail _ hkn))
    iterate 19 walk1
    refine While_inv (n₀ := T.size) (WJ nx I kx oI kvs kc g T D W'.x n0 ks key kt) (by k_asm) (news_sub (by k_asm) (fun p hp => .tail _ hp)) ?hj ?turn
    case hj => exact ⟨rfl, .top, T, n0, _, rfl, rfl, G.e0, rfl, rfl, h1, h2, h3, rfl, by simp [Mine.cl], by simp [cr]⟩
    case turn =>
      rintro n m₂ nw h₂ tk₂ F2 N2 ⟨rfl, c', S', nO, tf, q1, q2, q3, q4, q5, q6, q7, q8, q9, q10, q11⟩
      subst q1
      have hst := (isT_plug (c := c') (S := S') G.e0 G.gr.tree).1
      rcases S' with _ | ⟨l, j, r⟩
      · obtain ⟨tn, hval⟩ := isT_nil hst
        k_steps
        apply loop_go
        rename_i fx hh1 lf1 vx hh2 F8 N8 lv1
        have hled := G.led
        subst hled
        obtain ⟨f1, f2, f3, fn, v1, v2, vn, N8⟩ := lits N8
        have hnd := nd_call (a := listOf (fsOf f1 f2 f3).toArray fn) (b := listOf [Value.str "" v1, Value.int key v2].toArray vn) (oI := oI) G.nd hI lf1 lv1
        refine call_use2 (N := news_sub N8 (sub_both (.tail _ (.head _)) (sub_both (.head _) (sub_both (.tail _ (.tail _ (.head _))) fun p hp => .tail _ (.tail _ (.tail _ (.tail _ hp))))))) (C := made_call (W := W') (g := g) (μ := μ) (pre := (I, oI) :: (D, listOf (refs g).toArray c) :: pre) G.wis hnd (by rw [G.hs, refs_len, G.gr.len, sizeLine_eq]; omega) (by simp)) (ret := ?_)
        k_whole
        rintro r9 n9 h9 tk9 ⟨nn, es, dn, t, te, mk, u, rfl, hn, hfx, hmk, hu, hw, rfl, hd9⟩ F9 N9
        have hsep := sep_of (A := ((I, oI) :: (D, listOf (refs g).toArray c) :: pre) ++ wl ((W'.putMade es dn (W'.made + 1) t).putHs (W'.hs ++ [Value.ref nn.x]) (W'.hn + 1))) (by rw [List.append_assoc]; exact hd9)
        have hC := Chg.pre (A := nl w.params 0 (g ++ [nn]) (setMu μ g.length u)) (B := nl w.params 0 (g ++ [nn]) (put (setMu μ g.length u) (slotI c') (slotF c') (.ref nn.x))) (off_of (A := ((I, oI) :: (D, listOf (refs g).toArray c) :: pre) ++ wl ((W'.putMade es dn (W'.made + 1) t).putHs (W'.hs ++ [Value.ref nn.x]) (W'.hn + 1))) (by rw [List.append_assoc]; exact hd9))
        rw [List.append_assoc, List.append_assoc] at hC
        have q3' : (g ++ [nn])[slotI c']? = some nO := by rw [List.getElem?_append_left (List.getElem?_eq_some_iff.mp q3).1]; exact q3
        have hgz : (refs g).length ≤ sizeLine := by rw [refs_len, G.gr.len, sizeLine_eq]; omega
        dsimp only [List.cons_append] at hC N9
        clear q3 e0 hsub
        k_steps
        have hnd2 : ND ([(I, oI)] ++ (D, listOf (refs g).toArray c) :: (pre ++ (wl ((W'.putMade es dn (W'.made + 1) t).putHs (W'.hs ++ [Value.ref nn.x]) (W'.hn + 1)) ++ nl w.params 0 (g ++ [nn]) (put (setMu μ g.length u) (slotI c') (slotF c') (.ref nn.x))))) := hd9.same (by simp [List.map_append, nl_addr])
        refine app_L (by k_asm) (by k_asm) (upd_at hnd2.cut.1 hnd2.cut.2) hgz ?_
        intro h' F' N'
        k_steps
        refine' LEnd.intro ?F ?N ?hI ?J
        case F => k_asm
        case N => exact news_sub (by k_asm) (sub_both (.head _) (sub_both (.tail _ (.tail _ (List.mem_append.mpr (.inl hk)))) fun p hp => .tail _ hp))
        case hI => exact fun q hq => gj_off hnd2 q hq
        case J => exact ⟨_, _, _, _, D, _, gj_step G hkey hn hu hw q10 q11 hd9, q6, q7, q8⟩
      · obtain ⟨nS, hval, eS, hsl, hsr⟩ := isT_node hst
        have hin := mid_in (c := c') (l := l) (j := j) (r := r)
        obtain ⟨tk3, hkv⟩ := G.gr.key' hin
        simp only [Tr.size] at q2
        k_steps
        · refine' WhileStep.intro (n' := l.size) ?F ?N ?hn ?J
          case F => k_asm
          case N => k_asm
          case hn => omega
          case J => exact ⟨rfl, .l c' j r, l, nS, _, rfl, rfl, eS, rfl, rfl, q6, q7, q8, q9, q10, bound_l G.gr.sorted (by assumption) q11⟩
        · have hne := kOf_ne hnd hkey ((G.gr.all j).mp hin).1 ((G.gr.all j).mp hin).2
          refine' WhileStep.intro (n' := r.size) ?F ?N ?hn ?J
          case F => k_asm
          case N => k_asm
          case hn => omega
          case J => exact ⟨rfl, .r l j c', r, nS, _, rfl, rfl, eS, rfl, rfl, q6, q7, q8, q9, bound_r G.gr.sorted (by omega) q10, q11⟩

/-! marks -/
noncomputable def mks (μ : Nat → Mu) (f : Nat → Value) : Nat → Mu := fun j => { μ j with mkv := f j }
theorem mark_mks (μ : Nat → Mu) (f : Nat → Value) (i : Nat) (v : Value) : mark (mks μ f) i v = mks μ (fun j => if j = i then v else f j) := by
  funext j
  unfold mark mks setMu
  by_cases h : j = i
  · simp [h]
  · simp [h]
theorem mks_mks (μ : Nat → Mu) (f f' : Nat → Value) : mks (mks μ f) f' = mks μ f' := rfl
theorem mks_id (μ : Nat → Mu) : mks μ (fun j => (μ j).mkv) = μ := rfl
theorem isT_mks {g : List Nd} {μ : Nat → Mu} {f : Nat → Value} {v : Value} {T : Tr} (h : IsT g μ v T) : IsT g (mks μ f) v T := isT_frame h fun _ _ => ⟨rfl, rfl⟩
theorem gr_mks {g : List Nd} {μ : Nat → Mu} {f : Nat → Value} {T : Tr} {kf : Nat → Int} {n : Nat} (G : Gr g μ T kf n) : Gr g (mks μ f) T kf n :=
  ⟨G.len, G.num, G.key, isT_mks G.tree, G.all, G.nd, G.sorted, G.l0, G.k0⟩
theorem mem_updL {d : Addr} {o o' : Obj} : ∀ {l : Led}, ND l → (d, o) ∈ l → Upd d o o' l (updL d o' l)
  | p :: l, hd, hm => by
    unfold ND at hd
    rw [List.map_cons, List.nodup_cons] at hd
    rcases List.mem_cons.mp hm with e | hm
    · subst e
      have : updL d o' ((d, o) :: l) = (d, o') :: l := by
        show (if (d, o).1 = d then (d, o') else (d, o)) :: updL d o' l = _
        rw [if_pos rfl, upd_off hd.1]
      rw [this]
      exact .head fun p hp e => hd.1 (by have := List.mem_map_of_mem (f := (·.1)) hp; rw [e] at this; exact this)
    · have hne : p.1 ≠ d := fun e => hd.1 (by rw [e]; exact List.mem_map_of_mem (f := (·.1)) hm)
      have : updL d o' (p :: l) = p :: updL d o' l := by
        show (if p.1 = d then (d, o') else p) :: updL d o' l = _
        rw [if_neg hne]
      rw [this]
      exact .tail hne (mem_updL (by exact hd.2) hm)
theorem upd_mark {P : Params} {pre : Led} {g : List Nd} {μ : Nat → Mu} {i : Nat} {n : Nd} {v : Value} (hd : ND (pre ++ nl P 0 g μ)) (e : g[i]? = some n) :
    Upd n.dx (ndDict P n (μ i).mkv) (ndDict P n v) (pre ++ nl P 0 g μ) (pre ++ nl P 0 g (mark μ i v)) := by
  have h := mem_updL (o' := ndDict P n v) hd (List.mem_append.mpr (.inr (mem_nl (p := (n.dx, ndDict P n (μ i).mkv)) (i := 0) e (by rw [Nat.zero_add]; exact .tail _ (.head _)))))
  have e1 : updL n.dx (ndDict P n v) (pre ++ nl P 0 g μ) = pre ++ nl P 0 g (mark μ i v) := by
    have e2 := dx_upd (P := P) (μ := μ) (u := { μ i with mkv := v }) (i := 0) (sep_of hd) e (by rw [Nat.zero_add])
    rw [Nat.zero_add] at e2
    rw [show updL n.dx (ndDict P n v) (pre ++ nl P 0 g μ) = updL n.dx (ndDict P n v) pre ++ updL n.dx (ndDict P n v) (nl P 0 g μ) from List.map_append .., e2]
    congr 1
    refine upd_off fun hm => ?_
    obtain ⟨p, hp, e3⟩ := List.mem_map.mp hm
    exact off_of hd p hp (e3 ▸ (addr_mem e).2.1)
  rwa [e1] at h
section
variable {prog : Program} {w : World} {A : Around} {E : Value → Shared → Prop} {s : Shared} {h₀ : Heap} {L : Addr} {m : Str → Option Value} {pre : Led} {g : List Nd} {μ : Nat → Mu} {i : Nat} {n : Nd}
theorem set_mark {Q : Unit → Shared → Prop} {k : Int} {t : Nat} (F : Fr h₀ L s.heap m) (X : (Mine.hd.heap_39 w.params).In h₀) (N : News h₀ L s.heap (pre ++ nl w.params 0 g μ)) (hd : ND (pre ++ nl w.params 0 g μ)) (e : g[i]? = some n)
    (hs : findIn (Mine.hd.heap_39 w.params) (.ref 225) "__setattr__" = some (some (.builtin "object.__setattr__"))) (hp : plainOver (Mine.hd.heap_39 w.params) 225 = true) (ht : takerIn (Mine.hd.heap_39 w.params) 225 "mark" = some none) (hh : hasDictIn (Mine.hd.heap_39 w.params) 225 = true)
    (h : ∀ h', Fr h₀ L h' m → News h₀ L h' (pre ++ nl w.params 0 g (mark μ i (.int k t))) → Q () { s with heap := h', toks := s.toks + 2 }) :
    wpAny (model prog w) A (setAttr (.ref n.x) "mark" (.int k t)) Q E s := by
  refine set_dict F X N (inst_of N (fun p hp => List.mem_append.mpr (.inr hp)) e) rfl hs hp ht hh rfl rfl (upd_mark hd e) (by show (5 : Nat) ≤ 1000; omega) ?_
  exact fun h' F' N' => h h' F' N'
theorem pop_L {D : Addr} {news news' : Led} {xs : List Value} {v : Value} {c : Nat} {Q : Value → Shared → Prop} (F : Fr h₀ L s.heap m) (N : News h₀ L s.heap news) (U : Upd D (listOf (xs ++ [v]).toArray c) (listOf xs.toArray (c + 1)) news news') (hz : xs.length + 1 ≤ sizeLine)
    (h : ∀ h', Fr h₀ L h' m → News h₀ L h' news' → Q v { s with heap := h' }) : wpAny (model prog w) A (call (.builtin "list.pop") [.ref D]) Q E s :=
  kl_pop (its := (xs ++ [v]).toArray) F N (p := xs) (y := v) (by simpa using kpa_last v xs) U (by simpa using hz) fun h' F' N' => h h' F' N'
theorem ext_L {D b : Addr} {news news' : Led} {xs ys : List Value} {c c2 : Nat} {Q : Value → Shared → Prop} (F : Fr h₀ L s.heap m) (N : News h₀ L s.heap news) (hb : (b, listOf ys.toArray c2) ∈ news) (hne : ys.length ≠ 0) (U : Upd D (listOf xs.toArray c) (listOf (xs ++ ys).toArray (c + 1)) news news') (hz : xs.length + ys.length ≤ 100000)
    (h : ∀ h', Fr h₀ L h' m → News h₀ L h' news' → Q .none { s with heap := h' }) : wpAny (model prog w) A (call (.builtin "list.extend") [.ref D, .ref b]) Q E s :=
  kl_extend (its := xs.toArray) (its2 := ys.toArray) F N hb (by simp) (by simpa using hne) U (by simp only [Builtin.List.listTooLong, List.size_toArray]; rw [sizeLine_eq]; simp; omega) (by rw [sizeLine_eq]; simp; omega) (by rw [sizeLine_eq]; simp; omega) fun h' F' N' => h h' F' N'
theorem upd_same {D : Addr} {o : Obj} {l : Led} (hd : ND l) (hm : (D, o) ∈ l) : Upd D o o l l := by
  have h := mem_updL (o' := o) hd hm
  have : updL D o l = l := by
    unfold updL
    conv => rhs; rw [← List.map_id l]
    refine List.map_congr_left fun p hp => ?_
    by_cases hq : p.1 = D
    · rw [if_pos hq]
      have hp2 : (p.1, p.2) ∈ l := hp
      rw [hq] at hp2
      have : p.2 = o := by
        clear h hp
        induction l with
        | nil => cases hp2
        | cons r l ih =>
          unfold ND at hd
          rw [List.map_cons, List.nodup_cons] at hd
          rcases List.mem_cons.mp hp2 with e1 | e1 <;> rcases List.mem_cons.mp hm with e2 | e2
          · exact (Prod.mk.inj (e1.trans e2.symm)).2
          · exact absurd (e1 ▸ List.mem_map_of_mem (f := (·.1)) e2) hd.1
          · exact absurd (e2 ▸ List.mem_map_of_mem (f := (·.1)) e1) hd.1
          · exact ih hd.2 e2 e1
      rw [← this, ← hq]; rfl
    · rw [if_neg hq]; rfl
  rwa [this] at h
theorem ext_N {D b : Addr} {news : Led} {xs : List Value} {c c2 : Nat} {Q : Value → Shared → Prop} (F : Fr h₀ L s.heap m) (N : News h₀ L s.heap news) (hb : (b, listOf [].toArray c2) ∈ news) (hd : ND news) (hm : (D, listOf xs.toArray c) ∈ news) (hz : xs.length ≤ 100000)
    (h : ∀ h', Fr h₀ L h' m → News h₀ L h' news → Q .none { s with heap := h' }) : wpAny (model prog w) A (call (.builtin "list.extend") [.ref D, .ref b]) Q E s :=
  kxn_extend (its := xs.toArray) (its2 := [].toArray) F N hb (by simp) (upd_same hd hm) (by simp only [Builtin.List.listTooLong, List.size_toArray, List.length_nil]; rw [sizeLine_eq]; simp; omega) (by rw [sizeLine_eq]; simp; omega) (by rw [sizeLine_eq]; simp; omega) fun h' F' N' => h h' F' N'
end
/-! the stack of what waits -/
inductive Bears (g : List Nd) (μ : Nat → Mu) : Value → Option Tr → Prop
  | int {k : Int} {t : Nat} : Bears g μ (.int k t) none
  | tree {v : Value} {T : Tr} : IsT g μ v T → Bears g μ v (some T)
inductive Stk (g : List Nd) (μ : Nat → Mu) : List Value → List (Option Tr) → Prop
  | nil : Stk g μ [] []
  | push {vs : List Value} {os : List (Option Tr)} {v : Value} {o : Option Tr} : Stk g μ vs os → Bears g μ v o → Stk g μ (vs ++ [v]) (os ++ [o])
noncomputable def Tr.wt : Tr → Nat
  | .nil => 1
  | .node l _ r => l.wt + r.wt + 2
noncomputable def ow : Option Tr → Nat
  | none => 1
  | some T => T.wt
noncomputable def oi : Option Tr → List Nat
  | none => []
  | some T => T.idx
noncomputable def sw (os : List (Option Tr)) : Nat := (os.map ow).sum
noncomputable def si (os : List (Option Tr)) : List Nat := os.flatMap oi
theorem Tr.wt_eq : ∀ T : Tr, T.wt = 3 * T.size + 1
  | .nil => rfl
  | .node l _ r => by simp only [Tr.wt, Tr.size, Tr.wt_eq l, Tr.wt_eq r]; omega
theorem ow_pos : ∀ o : Option Tr, 1 ≤ ow o
  | none => Nat.le_refl _
  | some T => by show 1 ≤ T.wt; rw [Tr.wt_eq]; omega
theorem sw_app (a b : List (Option Tr)) : sw (a ++ b) = sw a + sw b := by simp [sw]
theorem si_app (a b : List (Option Tr)) : si (a ++ b) = si a ++ si b := by simp [si]
theorem sw_len : ∀ os : List (Option Tr), os.length ≤ sw os
  | [] => Nat.le_refl _
  | o :: r => by have := sw_len r; have := ow_pos o; simp only [sw, List.map_cons, List.sum_cons, List.length_cons] at *; omega
theorem Stk.len {g : List Nd} {μ : Nat → Mu} {xs : List Value} {os : List (Option Tr)} (h : Stk g μ xs os) : xs.length = os.length := by
  induction h with
  | nil => rfl
  | push _ _ ih => simp [ih]
noncomputable def nums (V : List Nat) : List Int := V.map fun j : Nat => ((j : Nat) : Int) + 1
theorem valueAt_none {kvs : List (Int × Value)} {V : List Nat} {i : Nat} (hk : kvs.map (·.1) = nums V) (hi : i ∉ V) : PySem.valueAt kvs ((i : Int) + 1) = none := by
  unfold PySem.valueAt
  rw [Option.map_eq_none_iff, List.find?_eq_none]
  intro p hp e
  have e' : p.1 = (i : Int) + 1 := by simpa using e
  have := List.mem_map_of_mem (f := (·.1)) hp
  rw [hk, e'] at this
  obtain ⟨j, hj, e2⟩ := List.mem_map.mp this
  have : j = i := by omega
  exact hi (this ▸ hj)
section
variable {prog : Program} {w : World} {A : Around} {E : Value → Shared → Prop} {s : Shared} {h₀ : Heap} {L : Addr} {m : Str → Option Value} {news : Led}
theorem len_L {l : Addr} {xs : List Value} {c : Nat} {n : Int} {Q : Value → Shared → Prop} (N : News h₀ L s.heap news) (hm : (l, listOf xs.toArray c) ∈ news) (hn : (xs.length : Int) = n) (hz : n ≤ 100000) (h : Q (.int n (s.toks + 1)) { s with toks := s.toks + 1 + 1 }) :
    wpAny (model prog w) A (call (.builtin "len") [.ref l]) Q E s := by
  subst hn
  exact len_list (listAt N hm) (by simp; omega) (by simpa using h)
theorem list_met {M : Addr} {o : Obj} {kvs : List (Int × Value)} {Q : Value → Shared → Prop} (hh : A.handled = none) (F : Fr h₀ L s.heap m) (N : News h₀ L s.heap news) (hp : (M, o) ∈ news) (hd : o.IsDictOf (intKind prog w) kvs) (lo : (M == sysModules) = false) (hn : kvs.length ≤ 1000)
    (h : ∀ (B : Addr) c h' tk vs, Fr h₀ L h' m → News h₀ L h' ((B, listOf vs.toArray c) :: news) → (∀ q ∈ news, q.1 < B) → IntsAre vs (kvs.map (·.1)) → Q (.ref B) { s with heap := h', toks := tk }) :
    wpAny (model prog w) A (call (.type "list") [.ref M]) Q E s := by
  obtain ⟨ep, hat⟩ := (kda_dict N hp hd).dictAt
  refine kdl_N (kdl_dict (knd := intKind prog w) (kvs := kvs) (ep := ep) lo) hh F N hat (by rw [sizeLine_eq]; omega) fun B c h' tk vs F' N' l1 hl hv => ?_
  refine h B c h' tk vs F' N' l1 (kdy_ints (by rw [hl, List.length_map]) fun j v hvj => ?_)
  obtain ⟨k, x, hx, hk⟩ := hv j v hvj
  obtain ⟨t, rfl⟩ := Value.isInt_shape hk
  exact ⟨k, by rw [List.getElem?_map, hx]; rfl, t, rfl⟩
end
theorem stk_three {g : List Nd} {μ : Nat → Mu} {vs : List Value} {os : List (Option Tr)} {a b c : Value} {oa ob oc : Option Tr} (h : Stk g μ vs os) (h1 : Bears g μ a oa) (h2 : Bears g μ b ob) (h3 : Bears g μ c oc) : Stk g μ (vs ++ [a, b, c]) (os ++ [oa, ob, oc]) := by
  have := Stk.push (Stk.push (Stk.push h h1) h2) h3
  simpa using this

theorem things_ref {w : World} {g : List Nd} {μ : Nat → Mu} {i : Nat} {n : Nd} {news : Led} (e : g[i]? = some n) (hs : ∀ p ∈ nl w.params 0 g μ, p ∈ news) :
    Call w 324 [.ref n.x] 4 news (fun r news' => r = .ref n.vx ∧ news' = news) := by
  w_top off
  unfold Call
  k_fill
  intro mean mg mb dp un gd cn cs a ccd cl outer A₀ base h₀ L m s Q E B F X N T hk hd hu ret
  have h0 : 0 + i = i := Nat.zero_add i
  have hi := hs _ (mem_nl (p := (n.x, instObj 225 n.dx)) (i := 0) e (.head _))
  have hdd := hs _ (mem_nl (p := (n.dx, ndDict w.params n (μ i).mkv)) (i := 0) e (by rw [h0]; exact .tail _ (.head _)))
  have hf := hs _ (mem_nl (p := (n.fx, listOf (fsOf n.l1 n.l2 n.l3).toArray n.nf)) (i := 0) e (.tail _ (.tail _ (.head _))))
  have hv := hs _ (mem_nl (p := (n.vx, listOf (μ i).vals.toArray n.nv)) (i := 0) e (by rw [h0]; exact .tail _ (.tail _ (.tail _ (.head _)))))
  clear hs e
  refine wpAny_call ?_
  k_dflt ktr_enter
  k_steps
  exact ret _ _ _ _ ⟨rfl, rfl⟩ (by k_asm) (by k_asm)
theorem things_str {w : World} {t : Nat} {news : Led} :
    Call w 324 [.str "" t] 4 news (fun r nw => ∃ D, r = .ref D ∧ nw = (D, listOf [].toArray 0) :: news ∧ ∀ p ∈ news, p.1 < D) := by
  w_top off
  unfold Call
  k_fill
  intro mean mg mb dp un gd cn cs a ccd cl outer A₀ base h₀ L m s Q E B F X N T hk hd hu ret
  refine wpAny_call ?_
  k_dflt ktr_enter
  k_steps
  exact ret _ _ _ _ ⟨_, rfl, rfl, by assumption⟩ (by k_asm) (by k_asm)
theorem things_int {w : World} {k : Int} {t : Nat} {news : Led} :
    Call w 324 [.int k t] 4 news (fun r nw => ∃ D, r = .ref D ∧ nw = (D, listOf [].toArray 0) :: news ∧ ∀ p ∈ news, p.1 < D) := by
  w_top off
  unfold Call
  k_fill
  intro mean mg mb dp un gd cn cs a ccd cl outer A₀ base h₀ L m s Q E B F X N T hk hd hu ret
  refine wpAny_call ?_
  k_dflt ktr_enter
  k_steps
  exact ret _ _ _ _ ⟨_, rfl, rfl, by assumption⟩ (by k_asm) (by k_asm)

local macro_rules | `(tactic| walk_at "exec While Compare cons nil") => `(tactic| (k_here; refine loop_here ?_))
local macro_rules | `(tactic| walk_at "setAttr ref") => `(tactic| (k_here; refine loop_here ?_))
local macro_rules | `(tactic| walk_at "compareOp In") => `(tactic| (k_here; refine loop_here ?_))
local macro_rules | `(tactic| walk_at "setItem ref int") => `(tactic| (k_here; refine loop_here ?_))
local macro_rules | `(tactic| walk_at "call builtin:list.extend") => `(tactic| (k_here; refine loop_here ?_))
local macro_rules | `(tactic| walk_at "call builtin:list.pop") => `(tactic| (k_here; refine loop_here ?_))

/-! the reaching -/
structure RJ (w : World) (g : List Nd) (μ : Nat → Mu) (pre : Led) (T : Tr) (A M : Addr) (n : Nat) (nw : Led) (xs : List Value) (c : Nat) (os : List (Option Tr)) (kvs : List (Int × Value)) (o : Obj) (V : List Nat) : Prop where
  led : nw = (M, o) :: (A, listOf xs.toArray c) :: (pre ++ nl w.params 0 g (mks μ fun j => if j ∈ V then .int 1 620 else (μ j).mkv))
  stk : Stk g μ xs os
  sz : sw os = n
  dict : o.IsDictOf (intKind PySem.Challenge.rw_sj0191_01.row.prog w) kvs
  keys : kvs.map (·.1) = nums V
  bnd : sw os ≤ 61
  nd : (V ++ si os).Nodup
  all : ∀ j, (j ∈ V ∨ j ∈ si os) ↔ j ∈ T.idx
theorem reach_call {w : World} {g : List Nd} {μ : Nat → Mu} {pre : Led} {R : Addr} {c : Nat} {n0 : Nd} {T : Tr} (hd : ND (pre ++ nl w.params 0 g μ)) (hR : (R, listOf [Value.ref n0.x].toArray c) ∈ pre) (hT : IsT g μ (.ref n0.x) T) (hnd : T.idx.Nodup) (hz : T.size ≤ 20)
    (hk : ∀ j ∈ T.idx, ∃ o, Bears g μ (μ j).k o ∧ oi o = [] ∧ ow o = 1) (hn : ∀ (j : Nat) (d : Nd), g[j]? = some d → d.num = (j : Int) + 1) :
    Call w 331 [.ref R] 12 (pre ++ nl w.params 0 g μ) (fun r nw => nw = pre ++ nl w.params 0 g (mks μ fun j => if j ∈ T.idx then .int 1 620 else (μ j).mkv)) := by
  w_top off
  unfold Call
  k_fill
  intro mean mg mb dp un gd cn cs a ccd cl outer A₀ base h₀ L m s Q E B F X N T0 hkk hdp hu ret
  have hR' : (R, listOf [Value.ref n0.x].toArray c) ∈ pre ++ nl w.params 0 g μ := List.mem_append.mpr (.inl hR)
  refine wpAny_call ?_
  k_dflt ktr_enter
  k_steps
  apply loop_go
  rename_i A c1 hA lA M hM oM loM hsM fsM hiM fiM lM Tp hTp lTp hx1 hx2 hx3 F9 N9
  have hND : ∀ (o l : Obj) (f : Nat → Value), ND ((M, o) :: (A, l) :: (pre ++ nl w.params 0 g (mks μ f))) := fun o l f => by
    have a1 : ND (pre ++ nl w.params 0 g (mks μ f)) := hd.same (by simp [nl_addr])
    have a2 : ND ((A, l) :: (pre ++ nl w.params 0 g (mks μ f))) := nd_cons a1 fun q hq => by
      have := List.mem_map_of_mem (f := (·.1)) hq
      rw [show (pre ++ nl w.params 0 g (mks μ f)).map (·.1) = (pre ++ nl w.params 0 g μ).map (·.1) by simp [nl_addr]] at this
      obtain ⟨r, hr, e⟩ := List.mem_map.mp this
      exact e ▸ Nat.ne_of_lt (lA r hr)
    exact nd_cons a2 fun q hq => by
      rcases List.mem_cons.mp hq with rfl | hq
      · exact Nat.ne_of_lt lM.1
      · have := List.mem_map_of_mem (f := (·.1)) hq
        rw [show (pre ++ nl w.params 0 g (mks μ f)).map (·.1) = (pre ++ nl w.params 0 g μ).map (·.1) by simp [nl_addr]] at this
        obtain ⟨r, hr, e⟩ := List.mem_map.mp this
        exact e ▸ Nat.ne_of_lt (ktn_ltOf lM.2 r hr)
  have hU : ∀ (o l l' : Obj) (f : Nat → Value), Upd A l l' ((M, o) :: (A, l) :: (pre ++ nl w.params 0 g (mks μ f))) ((M, o) :: (A, l') :: (pre ++ nl w.params 0 g (mks μ f))) := fun o l l' f => by
    have h1 : ND ([(M, o)] ++ (A, l) :: (pre ++ nl w.params 0 g (mks μ f))) := hND o l f
    exact upd_at h1.cut.1 h1.cut.2
  have hUF : ∀ (o l : Obj) (f : Nat → Value), UpdF M o ((M, o) :: (A, l) :: (pre ++ nl w.params 0 g (mks μ f))) (fun o' => (M, o') :: (A, l) :: (pre ++ nl w.params 0 g (mks μ f))) := fun o l f => by
    have h1 : ND ([] ++ (M, o) :: (A, l) :: (pre ++ nl w.params 0 g (mks μ f))) := hND o l f
    exact .head h1.cut.2
  refine While_inv (n₀ := T.wt) (news := (M, oM) :: (A, listOf [Value.ref n0.x].toArray c1) :: (pre ++ nl w.params 0 g μ)) (fun n m nw => ∃ xs c os kvs o V, RJ w g μ pre T A M n nw xs c os kvs o V ∧ m (Str.ofString "waiting") = some (.ref A) ∧ m (Str.ofString "met") = some (.ref M)) (by k_asm) (news_sub N9 fun p hp => .tail _ hp) ?hj ?turn
  case hj =>
    refine ⟨[.ref n0.x], c1, [some T], [], oM, [], ⟨?_, ?_, by simp [sw, ow], hiM, rfl, by simp [sw, ow, Tr.wt_eq]; omega, by simpa [si, oi] using hnd, fun j => by simp [si, oi]⟩, rfl, rfl⟩
    · simp only [List.not_mem_nil, if_false]; rfl
    · exact .push (vs := []) (os := []) .nil (.tree hT)
  case turn =>
    rintro n m₂ nw h₂ tk₂ F2 N2 ⟨xs, c, os, kvs, o, V, J, q1, q2⟩
    have hled := J.led
    subst hled
    have hst := J.stk
    have hkl : kvs.length = V.length := by have := congrArg List.length J.keys; simpa [nums] using this
    have hVT : (V ++ si os).Perm T.idx := (List.perm_ext_iff_of_nodup J.nd hnd).mpr fun j => by rw [List.mem_append]; exact J.all j
    have hVl : V.length + (si os).length ≤ 20 := by
      have := hVT.length_eq
      rw [List.length_append, Tr.idx_len] at this
      omega
    cases hst with
    | nil =>
      k_steps
      refine list_met rfl (by k_asm) (by k_asm) (.head _) J.dict loM (by omega) ?_
      intro B9 c9 h9 tk9 vs9 F9 N9 l9 hi9
      have hk64 : (kvs.map (·.1)).length < 64 := by rw [List.length_map]; omega
      k_steps
      have hfe : (fun j => if j ∈ V then Value.int 1 620 else (μ j).mkv) = (fun j => if j ∈ T.idx then Value.int 1 620 else (μ j).mkv) := by
        funext j
        have := J.all j
        simp only [si, List.flatMap_nil, List.not_mem_nil, or_false] at this
        simp only [this]
      exact ret _ _ _ _ (congrArg (fun f => pre ++ nl w.params 0 g (mks μ f)) hfe) (by k_asm) (news_sub (by k_asm) fun p hp => .tail _ (.tail _ (.tail _ (.tail _ hp))))
    | @push vs os v ov hst hb =>
      have hlen : (vs ++ [v]).length ≤ 100 := by
        have := J.stk.len
        have := sw_len (os ++ [ov])
        have := J.bnd
        omega
      have hlen2 : ((vs ++ [v]).length : Int) = (vs.length : Int) + 1 := by simp
      have hvz : vs.length + 1 ≤ sizeLine := by rw [List.length_append, List.length_cons, List.length_nil] at hlen; rw [sizeLine_eq]; omega
      have hvl : vs.length + 3 ≤ 100000 := by rw [List.length_append, List.length_cons, List.length_nil] at hlen; omega
      have hsw : sw os + ow ov = n := by have := J.sz; rw [sw_app] at this; simpa [sw] using this
      have hbnd := J.bnd
      rw [J.sz] at hbnd
      cases hb with
      | @int k t =>
        k_steps
        refine len_L (by k_asm) (.tail _ (.head _)) hlen2 (by omega) ?_
        k_steps
        apply loop_go
        refine pop_L (by k_asm) (by k_asm) (hU _ _ _ _) hvz ?_
        intro h' F' N'
        k_steps
        apply loop_go
        refine call_use2 (C := things_int) (ret := ?_)
        k_whole
        rintro r5 n5 h5 tk5 ⟨B5, rfl, rfl, l5⟩ F5 N5
        k_steps
        apply loop_go
        refine ext_N (by k_asm) (by k_asm) (.head _) (nd_cons (hND _ _ _) fun q hq => Nat.ne_of_lt (l5 q hq)) (.tail _ (.tail _ (.head _))) (by omega) ?_
        intro h6 F6 N6
        k_steps
        refine' WhileStep.intro (n' := sw os) ?F ?N ?hn ?J
        case F => k_asm
        case N => exact news_sub (by k_asm) fun p hp => .tail _ hp
        case hn => simp only [ow, Tr.wt] at hsw; omega
        case J => exact ⟨vs, _, os, kvs, o, V, ⟨rfl, hst, rfl, J.dict, J.keys, by omega, by simpa [si, oi, Tr.idx] using J.nd, fun j => by simpa [si, oi, Tr.idx] using J.all j⟩, q1, q2⟩
      | @tree v S hS =>
        rcases S with _ | ⟨l, i, r⟩
        · obtain ⟨t, rfl⟩ := isT_nil hS
          k_steps
          refine len_L (by k_asm) (.tail _ (.head _)) hlen2 (by omega) ?_
          k_steps
          apply loop_go
          refine pop_L (by k_asm) (by k_asm) (hU _ _ _ _) hvz ?_
          intro h' F' N'
          k_steps
          apply loop_go
          refine call_use2 (C := things_str) (ret := ?_)
          k_whole
          rintro r5 n5 h5 tk5 ⟨B5, rfl, rfl, l5⟩ F5 N5
          k_steps
          apply loop_go
          refine ext_N (by k_asm) (by k_asm) (.head _) (nd_cons (hND _ _ _) fun q hq => Nat.ne_of_lt (l5 q hq)) (.tail _ (.tail _ (.head _))) (by omega) ?_
          intro h6 F6 N6
          k_steps
          refine' WhileStep.intro (n' := sw os) ?F ?N ?hn ?J
          case F => k_asm
          case N => exact news_sub (by k_asm) fun p hp => .tail _ hp
          case hn => simp only [ow, Tr.wt] at hsw; omega
          case J => exact ⟨vs, _, os, kvs, o, V, ⟨rfl, hst, rfl, J.dict, J.keys, by omega, by simpa [si, oi, Tr.idx] using J.nd, fun j => by simpa [si, oi, Tr.idx] using J.all j⟩, q1, q2⟩
        · obtain ⟨nS, rfl, eS, hl, hr⟩ := isT_node hS
          have h0 : 0 + i = i := Nat.zero_add i
          have hsub : ∀ {f : Nat → Value} {o l : Obj}, ∀ p ∈ nl w.params 0 g (mks μ f), p ∈ (M, o) :: (A, l) :: (pre ++ nl w.params 0 g (mks μ f)) := fun p hp => .tail _ (.tail _ (List.mem_append.mpr (.inr hp)))
          have hi := fun (o l : Obj) (f : Nat → Value) => hsub (o := o) (l := l) _ (mem_nl (P := w.params) (μ := mks μ f) (p := (nS.x, instObj 225 nS.dx)) (i := 0) eS (.head _))
          have hdd := fun (o l : Obj) (f : Nat → Value) => hsub (o := o) (l := l) _ (mem_nl (P := w.params) (μ := mks μ f) (p := (nS.dx, ndDict w.params nS (mks μ f i).mkv)) (i := 0) eS (by rw [h0]; exact .tail _ (.head _)))
          k_steps
          refine len_L (by k_asm) (.tail _ (.head _)) hlen2 (by omega) ?_
          k_steps
          apply loop_go
          refine pop_L (by k_asm) (by k_asm) (hU _ _ _ _) hvz ?_
          intro h' F' N'
          have hi1 := hi o (listOf vs.toArray (c + 1)) (fun j => if j ∈ V then .int 1 620 else (μ j).mkv)
          have hd1 := hdd o (listOf vs.toArray (c + 1)) (fun j => if j ∈ V then .int 1 620 else (μ j).mkv)
          k_steps
          apply loop_go
          have hiV : i ∉ V := fun hm => (List.nodup_append.mp J.nd).2.2 i hm i (by simp [si, oi, Tr.idx]) rfl
          have hnum := hn _ _ eS
          have hvn : PySem.valueAt kvs nS.num = none := hnum ▸ valueAt_none J.keys hiV
          refine kda_in (knd := intKind PySem.Challenge.rw_sj0191_01.row.prog w) (by k_asm) (.head _) J.dict loM (PySem.intKind_is _ _ _ _) false (by rw [hvn]; rfl) ?_
          k_steps
          apply loop_go
          k_dflt (refine set_mark (pre := (M, o) :: (A, listOf vs.toArray (c + 1)) :: pre) (by k_asm) (by k_in) (by k_asm) (hND _ _ _) eS (by k_is) (by k_is) (by k_is) (by k_is) ?_)
          intro h6 F6 N6
          rw [mark_mks] at N6
          dsimp only [List.cons_append] at N6
          have hi2 := hi o (listOf vs.toArray (c + 1)) (fun j => if j = i then .int 1 620 else if j ∈ V then .int 1 620 else (μ j).mkv)
          have hd2 := hdd o (listOf vs.toArray (c + 1)) (fun j => if j = i then .int 1 620 else if j ∈ V then .int 1 620 else (μ j).mkv)
          k_steps
          apply loop_go
          refine kda_set (knd := intKind PySem.Challenge.rw_sj0191_01.row.prog w) (k := nS.num) (by k_asm) (by k_asm) (hUF _ _ _) J.dict (PySem.intKind_is _ _ _ _) (by rw [sizeLine_eq]; omega) ?_
          intro h7 o7 F7 N7 hs7
          rw [stored_absent hvn] at hs7
          have hi3 := hi o7 (listOf vs.toArray (c + 1)) (fun j => if j = i then .int 1 620 else if j ∈ V then .int 1 620 else (μ j).mkv)
          have hd3 := hdd o7 (listOf vs.toArray (c + 1)) (fun j => if j = i then .int 1 620 else if j ∈ V then .int 1 620 else (μ j).mkv)
          k_steps
          apply loop_go
          refine call_use2 (C := things_ref eS hsub) (ret := ?_)
          k_whole
          rintro r8 n8 h8 tk8 ⟨rfl, rfl⟩ F8 N8
          k_steps
          apply loop_go
          refine ext_L (b := nS.vx) (ys := (μ i).vals) (c2 := nS.nv) (by k_asm) (by k_asm) (hsub _ (mem_nl (P := w.params) (i := 0) eS (by rw [h0]; exact .tail _ (.tail _ (.tail _ (.head _)))))) (by simp) (hU _ _ _ _) hvl ?_
          intro h9 F9 N9
          k_steps
          obtain ⟨ko, hbk, hko, hwk⟩ := hk i ((J.all i).mp (.inr (by simp [si, oi, Tr.idx])))
          have hpm : (V ++ [i] ++ si (os ++ [some l, ko, some r])).Perm (V ++ si (os ++ [some (.node l i r)])) := by
            rw [List.perm_iff_count]
            intro a
            have e1 : si [some l, ko, some r] = l.idx ++ r.idx := by
              show l.idx ++ (oi ko ++ (r.idx ++ [])) = _
              rw [hko]; simp
            have e2 : si [some (.node l i r)] = l.idx ++ i :: r.idx := by simp [si, oi, Tr.idx]
            rw [si_app, si_app, e1, e2]
            simp only [List.count_append, List.count_cons, List.count_nil]
            omega
          have hsz : sw (os ++ [some l, ko, some r]) + 1 = n := by
            have e1 : sw [some l, ko, some r] = l.wt + 1 + r.wt := by
              show l.wt + (ow ko + (r.wt + 0)) = _
              rw [hwk]; omega
            have hsw' : sw os + (l.wt + r.wt + 2) = n := hsw
            rw [sw_app, e1]
            omega
          have hfe : (fun j => if j = i then Value.int 1 620 else if j ∈ V then Value.int 1 620 else (μ j).mkv) = (fun j => if j ∈ V ++ [i] then Value.int 1 620 else (μ j).mkv) := by
            funext j
            by_cases h1 : j = i <;> by_cases h2 : j ∈ V <;> simp [h1, h2]
          refine' WhileStep.intro (n' := sw (os ++ [some l, ko, some r])) ?F ?N ?hn ?J
          case F => k_asm
          case N => k_asm
          case hn => omega
          case J =>
            refine ⟨vs ++ (μ i).vals, _, os ++ [some l, ko, some r], _, o7, V ++ [i], ⟨congrArg (fun f => (M, o7) :: (A, listOf (vs ++ (μ i).vals).toArray _) :: (pre ++ nl w.params 0 g (mks μ f))) hfe, stk_three hst (.tree hl) hbk (.tree hr), rfl, hs7, ?_, by omega, hpm.nodup_iff.mpr J.nd, fun j => ?_⟩, q1, q2⟩
            · rw [List.map_append, J.keys, hnum]; simp [nums]
            · have h1 := hpm.mem_iff (a := j)
              have h2 := J.all j
              rw [List.mem_append] at h1
              rw [← h2, ← List.mem_append (s := V), ← h1]

/-! list comprehensions by what their elements are -/
open LCg LCt in
section
variable {prog : Program} {w : World} {A : Around} {E : Value → Shared → Prop} {s : Shared} {h₀ : Heap} {L : Addr} {m : Str → Option Value} {env : Env}
theorem src_pure {elt : PySem.Expr} {x : Str} {scope : Scope} {cl : List (Str × Addr)} {Fin : Shared → List Value → Led → Prop} {news : Led} {ax : Addr} {its : List Value} {c : Nat} (G : Nat → Value → Prop) (hh : A.handled = none) (F : Fr h₀ L s.heap m) (N : News h₀ L s.heap news) (hax : (ax, listOf its.toArray c) ∈ news) (hz : its.length ≤ sizeLine)
    (hel : ∀ g i v, its[i]? = some v → EltP prog w A h₀ L m env elt x scope cl { s with heap := g } news v (G i))
    (fin : ∀ g ys, ys.length = its.length → (∀ i y, ys[i]? = some y → G i y) → Fin { s with heap := g } ys news) : CompSrc prog w A h₀ L m env elt x scope cl Fin (.ref ax) s :=
  CompSrc.ledger hh F N hax (by simpa using hz) fun g => rest_pure (.inr ⟨_, hax, rfl, _, rfl⟩) (fun i v hv => hel g i v (by simpa using hv)) (fun ys e1 e2 => fin g ys (by simpa using e1) e2) _ 0 [] (Nat.zero_add _) rfl (fun _ _ e => by simp at e)
theorem src_range {elt : PySem.Expr} {x : Str} {scope : Scope} {cl : List (Str × Addr)} {Fin : Shared → List Value → Led → Prop} {news : Led} {r : Addr} {a b : Int} {t u v : Tok} {n : Nat} (G : Nat → Value → Prop) (hh : A.handled = none) (F : Fr h₀ L s.heap m) (N : News h₀ L s.heap news) (hr : IsRange s.heap r a b 1 t u v)
    (hsm : Builtin.Range.small a b 1 = true) (hn : Builtin.Range.rangeSize a b 1 = ((n : Nat) : Int)) (hz : n ≤ sizeLine)
    (hel : ∀ g i v, (∃ t, v = .int (a + (i : Int)) t) → EltP prog w A h₀ L m env elt x scope cl { s with heap := g } news v (G i))
    (fin : ∀ g ys, ys.length = n → (∀ i y, ys[i]? = some y → G i y) → Fin { s with heap := g } ys news) : CompSrc prog w A h₀ L m env elt x scope cl Fin (.ref r) s :=
  CompSrc.range hh F N hr hsm hn hz fun g => rest_pure trivial (fun i v hv => hel g i v hv) (fun ys e1 e2 => fin g ys e1 e2) _ 0 [] (Nat.zero_add _) rfl (fun _ _ e => by simp at e)
/-- what a test lets through -/
noncomputable def pick (b : Nat → Bool) (e : Nat → Value) : Nat → List Value
  | 0 => []
  | n + 1 => pick b e n ++ (bif b n then [e n] else [])
noncomputable def TstP (prog : Program) (w : World) (A : Around) (h₀ : Heap) (L : Addr) (m : Str → Option Value) (env : Env) (ct : PySem.Expr) (x : Str) (scope : Scope) (cl : List (Str × Addr)) (s : Shared) (news : Led) (v : Value) (b : Bool) : Prop :=
  ∀ C oC m₂ h tk led (E' : Value → Shared → Prop), NsObj oC m₂ → m₂ x = some v → Fr h₀ L h m → News h₀ L h led → (C, oC) ∈ led → (∀ p ∈ news, p ∈ led) →
    wpAny (model prog w) A (isTrue ct (compEnvC scope cl C env) (eval ct (compEnvC scope cl C env))) (fun r s' => r = b ∧ ∃ h' tk', s' = { s with heap := h', toks := tk' } ∧ Fr h₀ L h' m ∧ News h₀ L h' led) E' { s with heap := h, toks := tk }
theorem rest_test {ct elt : PySem.Expr} {x : Str} {scope : Scope} {cl : List (Str × Addr)} {S : Led → Prop} {P : Nat → Value → Prop} {Fin : List Value → Led → Prop} {news : Led} {b : Nat → Bool} {e : Nat → Value} {n : Nat} (hS : S news)
    (htst : ∀ i v, P i v → TstP prog w A h₀ L m env ct x scope cl s news v (b i)) (hel : ∀ i v, P i v → b i = true → EltP prog w A h₀ L m env elt x scope cl s news v (· = e i)) (fin : Fin (pick b e n) news) :
    ∀ k i, i + k = n → CompRestT prog w A h₀ L m env ct elt x scope cl s S P Fin k i (pick b e i) news := by
  intro k
  induction k with
  | zero => intro i e1; obtain rfl : i = n := by omega
            exact fin
  | succ k ih =>
    intro i e1 v I oI C oC D m₂ h tk E' hP hoC hx F N off _
    refine wpAny_mono (htst i v hP C oC m₂ h tk _ E' hoC hx F N (.tail _ (.head _)) fun p hp => .tail _ (.tail _ (.tail _ hp))) ?_ fun _ _ q => q
    rintro ok s' ⟨rfl, h', tk', rfl, F', N'⟩
    have hnx := ih (i + 1) (by omega)
    cases hb : b i with
    | true =>
      simp only [if_true]
      refine wpAny_mono (hel i v hP hb C oC m₂ h' tk' _ E' hoC hx F' N' (.tail _ (.head _)) fun p hp => .tail _ (.tail _ (.tail _ hp))) ?_ fun _ _ q => q
      rintro r s' ⟨rfl, h2, tk2, rfl, F2, N2⟩
      refine ⟨h2, tk2, news, rfl, F2, N2, off, hS, ?_⟩
      have : pick b e (i + 1) = pick b e i ++ [e i] := by
        show pick b e i ++ (bif b i then [e i] else []) = _
        rw [hb]; rfl
      rw [this] at hnx; exact hnx
    | false =>
      simp only [Bool.false_eq_true, if_false]
      refine ⟨h', tk', news, rfl, F', N', off, hS, ?_⟩
      have : pick b e (i + 1) = pick b e i := by
        show pick b e i ++ (bif b i then [e i] else []) = _
        rw [hb]; simp
      rw [this] at hnx; exact hnx
theorem src_test {ct elt : PySem.Expr} {x : Str} {scope : Scope} {cl : List (Str × Addr)} {Fin : Shared → List Value → Led → Prop} {news : Led} {ax : Addr} {its : List Value} {c : Nat} (b : Nat → Bool) (e : Nat → Value) (hh : A.handled = none) (F : Fr h₀ L s.heap m) (N : News h₀ L s.heap news) (hax : (ax, listOf its.toArray c) ∈ news) (hz : its.length ≤ sizeLine)
    (htst : ∀ g i v, its[i]? = some v → TstP prog w A h₀ L m env ct x scope cl { s with heap := g } news v (b i))
    (hel : ∀ g i v, its[i]? = some v → b i = true → EltP prog w A h₀ L m env elt x scope cl { s with heap := g } news v (· = e i))
    (fin : ∀ g, Fin { s with heap := g } (pick b e its.length) news) : CompSrcT prog w A h₀ L m env ct elt x scope cl Fin (.ref ax) s :=
  CompSrcT.ledger hh F N hax (by simpa using hz) fun g => by
    have := rest_test (S := SrcAt h₀ ax its.toArray) (P := fun i v => its.toArray[i]? = some v) (n := its.length) (Fin := Fin { s with heap := g }) (.inr ⟨_, hax, rfl, _, rfl⟩) (fun i v hv => htst g i v (by simpa using hv)) (fun i v hv => hel g i v (by simpa using hv)) (fin g) its.length 0 (Nat.zero_add _)
    simpa [pick] using this
end
noncomputable def TstEnd (h₀ : Heap) (L : Addr) (m : Str → Option Value) (s : Shared) (led : Led) (b : Bool) (r : Bool) (s' : Shared) : Prop := r = b ∧ ∃ h' tk', s' = { s with heap := h', toks := tk' } ∧ Fr h₀ L h' m ∧ News h₀ L h' led
theorem TstEnd.intro {h₀ h' : Heap} {L : Addr} {m : Str → Option Value} {s : Shared} {led : Led} {b r : Bool} {tk' : Nat} (hg : r = b) (F : Fr h₀ L h' m) (N : News h₀ L h' led) : TstEnd h₀ L m s led b r { s with heap := h', toks := tk' } := ⟨hg, h', tk', rfl, F, N⟩
noncomputable def SrcEnd (P : Value → Shared → Prop) (v : Value) (s : Shared) : Prop := P v s

local macro_rules | `(tactic| walk_at "eval ListComp") => `(tactic| (k_here; refine loop_here ?_))
local macro_rules | `(tactic| walk_at "exec Assign cons ListComp") => `(tactic| (k_here; (with_reducible show wpAny _ _ (exec (Stmt.Assign [Expr.Name _ _] _ _) _) _ _ _); refine loop_here ?_))

section
variable {prog : Program} {w : World} {A : Around} {E : Value → Shared → Prop} {s : Shared} {h₀ : Heap} {L : Addr} {m : Str → Option Value} {news : Led}
theorem sorted_one {d : Addr} {o : Obj} {k : Str} {x : Value} {Q : Value → Shared → Prop} (hh : A.handled = none) (F : Fr h₀ L s.heap m) (N : News h₀ L s.heap news) (hp : (d, o) ∈ news) (hd : o.IsDictOf (strKind prog w) [(k, x)]) (lo : (d == sysModules) = false)
    (h : ∀ (D : Addr) (h' : Heap) (tk t : Nat), Fr h₀ L h' m → News h₀ L h' ((D, listOf [Value.str k t].toArray 0) :: news) → (∀ q ∈ news, q.1 < D) → wpAny (model prog w) A.in1 (call (.builtin "list.sort") [.ref D]) (fun _ s' => Q (.ref D) s') E { s with heap := h', toks := tk }) :
    wpAny (model prog w) A (call (.builtin "sorted") [.ref d]) Q E s := by
  obtain ⟨ep, hat⟩ := (kda_dict N hp hd).dictAt
  refine kdu_sorted (kdl_dict (knd := strKind prog w) (kvs := [(k, x)]) (ep := ep) lo) hh F N hat (by rw [sizeLine_eq]; show 1 ≤ _; decide) fun D h' tk vs F' N' l1 hl hv => ?_
  match vs, hl, hv, N' with
  | [v], _, hv, N' =>
    obtain ⟨k', x', hx, hk⟩ := hv 0 v rfl
    simp only [List.getElem?_cons_zero, Option.some.injEq, Prod.mk.injEq] at hx
    obtain ⟨rfl, rfl⟩ := hx
    obtain ⟨t, rfl⟩ := Value.isStrOf_shape hk
    exact h D h' tk t F' N' l1
theorem lsort_one {D : Addr} {k : Str} {t n : Nat} {Q : Value → Shared → Prop} (F : Fr h₀ L s.heap m) (N : News h₀ L s.heap ((D, listOf [Value.str k t].toArray n) :: news)) (hD : ∀ q ∈ news, q.1 < D)
    (h : ∀ h' c, Fr h₀ L h' m → News h₀ L h' ((D, listOf [Value.str k t].toArray c) :: news) → Q .none { s with heap := h' }) : wpAny (model prog w) A (call (.builtin "list.sort") [.ref D]) Q E s := by
  have z := N _ (.head _)
  have hS : StrsAre [Value.str k t] [k] := .cons _ _ .nil
  refine wpAny_call_entry PyProof.Rows.slot_list_sort ⟨_, z.1, rfl⟩ PyProof.Rows.entry_list_sort (list_sort_treeK strKind_oneLt (n := n) (vs := [Value.str k t]) z.1 hS.keysOf (fun v₁ v₂ rest e => by simp at e) (by show 1 < 64; decide) fun st' hp hs => ⟨.none, rfl, ?_⟩) (PyProof.Rows.args_list_sort _)
  obtain ⟨c, hc⟩ := sortedHeap_at (vs := [Value.str k t]) (out := (arrOf st').map (·.2)) z.1
  have ho : (arrOf st').map (·.2) = [Value.str k t].toArray := by
    have h1 := hp.size_eq
    have h2 : (arrOf st').toList.Perm [(Value.str k t, Value.str k t)] := by
      have := Array.perm_iff_toList_perm.mp hp
      rwa [pairsOf_toList] at this
    have h3 := List.perm_singleton.mp h2
    apply Array.toList_inj.mp
    rw [Array.toList_map, h3]
    rfl
  rw [ho] at hc ⊢
  refine h _ c (((ksk_fr ((F.change (Heap.SameBut.update ..) z.2.1 z.2.2).push (seqObj "tuple" [Value.str k t].toArray 0) |>.push (seqObj "list" #[] 0)) (Heap.SameBut.update _ D (Obj.mapSeq fun _ => [Value.str k t].toArray)) z.2.1 z.2.2))) fun p hq => ?_
  rcases List.mem_cons.mp hq with rfl | hq
  · exact ⟨hc, z.2⟩
  · have y := N p (.tail _ hq)
    exact ⟨(sortedHeap_old (Nat.ne_of_lt (hD p hq)) (Heap.lt_size y.1)).trans y.1, y.2⟩
end
theorem item_any {K : Type} [DecidableEq K] {prog : Program} {w : World} {knd : KeyKind prog w K} {A : Around} {E : Value → Shared → Prop} {s : Shared} {h₀ : Heap} {L d : Addr} {news : Led} {o : Obj} {kvs : List (K × Value)} {k : K} {key v : Value} {value slice : PySem.Expr} {Q : Value → Shared → Prop} (N : News h₀ L s.heap news) (hp : (d, o) ∈ news) (hd : o.IsDictOf knd kvs) (hkey : knd.is k key = true) (hl : PySem.valueAt kvs k = some v) (h : Q v { s with toks := s.toks + 1 })
    (hs : subscripted slice false (.ref d) key = operate [.ref d, key] (getItem (.ref d) key) := by with_unfolding_all rfl) :
    wpAny (model prog w) A (subscriptTail value slice (.ref d) key) Q E s :=
  have hD := kda_dict N hp hd
  tail_any hD.typeIs slot_dict_getitem.lookup (wpAny_getItem_of hkey hD.mapOf hl h) hs
theorem roots_call {w : World} {W : Wo} {news : Led} {o : Obj} {v : Value} (S : WIs W) (hx : (W.x, instObj 280 W.d) ∈ news) (hd : (W.d, dictOf W.es W.n) ∈ news) (hs : (W.st, o) ∈ news) (ho : o.IsDictOf (strKind PySem.Challenge.rw_sj0191_01.row.prog w) [(Str.ofString "TREE", v)]) (lo : (W.st == sysModules) = false) :
    Call w 336 [.ref W.x] 8 news (fun r nw => ∃ D c, r = .ref D ∧ nw = (D, listOf [v].toArray c) :: news ∧ ∀ p ∈ news, p.1 ≠ D) := by
  w_top off
  unfold Call
  k_fill
  intro mean mg mb dp un gd cn cs a ccd cl outer A₀ base h₀ L m s Q E B F X N T0 hkk hdp hu ret
  refine wpAny_call ?_
  k_dflt (refine' code_defC ?k1 ?k2 ?k3 ?k4 ?k5 ?kA ?kF ?kK ?k6 ?k7 ?k8 ?k9 ?kB ?kD ?_ ?c2 ?c3 ?c4; (case kA => exact rfl); (case kF => exact rfl); (case kK => assumption); (case k1 => k_asm); (case k2 => k_asm); (case k3 => k_asm); (case k4 => k_asm); (case k5 => k_asm); (case k6 => k_is); (case k7 => k_is); (case k8 => ktr_room); (case k9 => exact BindsTo.of_eq rfl); (case kB => exact rfl); (case kD => decide +kernel); (case c2 => exact rfl); (case c3 => exact rfl); (case c4 => exact rfl); k_whole; intro g' L' h' tk' cells' FG' F' N' Y' B' X' T' l1; (try k_lt l1); k_cells Y'; (try simp only [List.cons_append, List.nil_append] at N'); (try dsimp only); (try k_lift B'); (try k_fold))
  rename Fr _ _ _ _ => Fbig
  rename_i oc dc
  have hcell : oc.data = .cell (some (.ref W.x)) := dc
  have F0 : Fr g' L' h' (fun _ => none) := Fbig
  clear Fbig dc
  k_steps
  apply loop_go
  k_dflt (refine LCg.ListComp_U (F₀ := by k_asm) (by with_unfolding_all rfl) (by decide) (by rfl) (by decide) (by rfl) ?_)
  refine wpAny_mono (Q := SrcEnd _) ?_ (fun _ _ h => h) (fun _ _ h => h)
  k_steps
  refine sorted_one rfl (by k_asm) (by k_asm) (by k_mem) ho lo ?_
  intro D1 h1 tk1 t1 F1 N1 l1'
  refine lsort_one F1 N1 l1' ?_
  intro h2 c2 F2 N2
  refine src_pure (fun _ y => y = v) rfl F2 N2 (.head _) (by rw [sizeLine_eq]; show 1 ≤ _; decide) ?hel ?fin
  case hel =>
    intro gh i v1 hv C oC m₂ h tk led E' hoC hx2 F' N' hC hsub
    match i, hv with
    | 0, hv =>
      obtain rfl : Value.str (Str.ofString "TREE") t1 = v1 := Option.some.inj hv
      refine wpAny_mono (Q := EltEnd _ _ _ _ led (fun y => y = v)) ?_ (fun _ _ h => h) (fun _ _ h => h)
      have hx3 := hsub _ (.tail _ (.tail _ hx))
      have hd3 := hsub _ (.tail _ (.tail _ hd))
      have hs3 := hsub _ (.tail _ (.tail _ hs))
      iterate 2 walk1
      refine lcf_cell (by k_asm) (by rfl) (hsub _ (.tail _ (.head _))) hcell ?_ (by rfl) (by rfl)
      iterate 2 walk1
      refine item_any (knd := strKind PySem.Challenge.rw_sj0191_01.row.prog w) (k := Str.ofString "TREE") (v := v) (by k_asm) hs3 ho (strKind_is _ _ _ _) (by simp [PySem.valueAt]) ?_
      exact EltEnd.intro rfl (by k_asm) (by k_asm)
  case fin =>
    intro gh ys hl hys D3 h3 tk3 F3 N3 o3
    match ys, hl, hys, N3 with
    | [y], _, hys, N3 =>
      obtain rfl := hys 0 y rfl
      k_steps
      have o4 := off1_mem o3
      exact ret _ _ _ _ ⟨D3, _, rfl, rfl, fun p hp => by have := o4 p (.tail _ (.tail _ hp)); exact this⟩ (by k_asm) (news_sub (by k_asm) (sub_both (.head _) fun p hp => .tail _ (.tail _ (.tail _ hp))))

theorem bears_mks {g : List Nd} {μ : Nat → Mu} {f : Nat → Value} {v : Value} {o : Option Tr} (h : Bears g μ v o) : Bears g (mks μ f) v o := by
  cases h with
  | int => exact .int
  | tree h => exact .tree (isT_mks h)
noncomputable def eNum (g : List Nd) (i : Nat) : Value := match g[i]? with
  | some n => .int n.num n.nt
  | none => .none
noncomputable def eRef (g : List Nd) (i : Nat) : Value := match g[i]? with
  | some n => .ref n.x
  | none => .none
theorem refs_inv {g : List Nd} {i : Nat} {v : Value} (h : (refs g)[i]? = some v) : ∃ n, g[i]? = some n ∧ v = .ref n.x := by
  unfold refs at h
  rw [List.getElem?_map] at h
  cases hg : g[i]? with
  | none => rw [hg] at h; cases h
  | some n => rw [hg] at h; exact ⟨n, rfl, (Option.some.inj h).symm⟩
theorem pick_all {g : List Nd} {b : Nat → Bool} (hb : ∀ i, i < g.length → b i = true) : ∀ n, n ≤ g.length → pick b (eRef g) n = (refs g).take n
  | 0, _ => rfl
  | n + 1, h => by
    show pick b (eRef g) n ++ (bif b n then [eRef g n] else []) = _
    have e := List.getElem?_eq_getElem (l := g) (i := n) (by omega)
    have e2 : eRef g n = .ref g[n].x := by unfold eRef; rw [e]
    have e3 : (refs g)[n]? = some (.ref g[n].x) := refs_at2 e
    rw [pick_all hb n (by omega), hb n (by omega), e2, List.take_add_one, e3]
    rfl
/-- the numbers that a test lets through -/
noncomputable def pickN (b : Nat → Bool) : Nat → List Int
  | 0 => []
  | n + 1 => pickN b n ++ (bif b n then [(n : Int) + 1] else [])
theorem intsAre_app {a b : List Value} {x y : List Int} (h : IntsAre a x) (h2 : IntsAre b y) : IntsAre (a ++ b) (x ++ y) := by
  induction h with
  | nil => exact h2
  | cons k t _ ih => exact .cons k t ih
theorem pick_ints {g : List Nd} {b : Nat → Bool} (hn : ∀ (j : Nat) (d : Nd), g[j]? = some d → d.num = (j : Int) + 1) : ∀ n, n ≤ g.length → IntsAre (pick b (eNum g) n) (pickN b n)
  | 0, _ => .nil
  | n + 1, h => by
    have e := List.getElem?_eq_getElem (l := g) (i := n) (by omega)
    have e2 : eNum g n = .int ((n : Int) + 1) g[n].nt := by unfold eNum; rw [e, ← hn _ _ e]
    refine intsAre_app (pick_ints hn n (by omega)) ?_
    cases b n with
    | true => rw [e2]; exact .cons _ _ .nil
    | false => exact .nil
theorem pickN_lt (b : Nat → Bool) : ∀ n, ∀ x ∈ pickN b n, x ≤ (n : Int)
  | 0, x, h => by cases h
  | n + 1, x, h => by
    rcases List.mem_append.mp h with h | h
    · have := pickN_lt b n x h; omega
    · cases hb : b n with
      | true => rw [hb] at h; have := List.mem_singleton.mp h; omega
      | false => rw [hb] at h; cases h
theorem pickN_sorted (b : Nat → Bool) : ∀ n, (pickN b n).Pairwise (· ≤ ·)
  | 0 => .nil
  | n + 1 => by
    refine List.pairwise_append.mpr ⟨pickN_sorted b n, ?_, fun x hx y hy => ?_⟩
    · cases b n <;> simp
    · have := pickN_lt b n x hx
      cases hb : b n with
      | true => rw [hb] at hy; have := List.mem_singleton.mp hy; omega
      | false => rw [hb] at hy; cases hy
theorem pickN_len (b : Nat → Bool) : ∀ n, (pickN b n).length ≤ n
  | 0 => Nat.le_refl _
  | n + 1 => by
    have := pickN_len b n
    show (pickN b n ++ _).length ≤ _
    rw [List.length_append]
    cases b n <;> simp <;> omega
noncomputable def Wo.putHl (W : Wo) (es : List DictEntry) (n : Nat) (D : Addr) (xs : List Value) (c : Nat) : Wo := { W with es := es, n := n, hl := D, hs := xs, hn := c }
theorem WIs.putHl {W : Wo} (h : WIs W) {hsh : Int} {kt n c : Nat} {D : Addr} {xs : List Value} : WIs (W.putHl (putL "holders" hsh (.str "holders" kt) (.ref D) W.es) n D xs c) :=
  ⟨getL_put_ne (by decide) h.made, getL_put_same h.holders, getL_put_ne (by decide) h.store, getL_put_ne (by decide) h.wnames, getL_put_ne (by decide) h.traced,
    by show (putL _ _ _ _ _).length ≤ 100; rw [putL_len_same h.holders]; exact h.len⟩
theorem nd_perm {l l' : Led} (h : ND l) (p : (l'.map (·.1)).Perm (l.map (·.1))) : ND l' := p.nodup_iff.mpr h
theorem nd_putHl {W : Wo} {pre R : Led} {es : List DictEntry} {n c : Nat} {D : Addr} {xs : List Value} (hd : ND (pre ++ (wl W ++ R))) (hD : ∀ q ∈ pre ++ (wl W ++ R), q.1 ≠ D) : ND (pre ++ (wl (W.putHl es n D xs c) ++ R)) := by
  have h1 : ND ((W.hl, listOf W.hs.toArray W.hn) :: (pre ++ ((W.x, instObj 280 W.d) :: (W.d, dictOf W.es W.n) :: (W.rest ++ R)))) := nd_perm hd (by
    rw [List.perm_iff_count]; intro a; simp only [List.map_append, List.map_cons, List.count_append, List.count_cons]; omega)
  have h2 : ND ((D, listOf xs.toArray c) :: (pre ++ ((W.x, instObj 280 W.d) :: (W.d, dictOf W.es W.n) :: (W.rest ++ R)))) := nd_cons (nd_tail h1) fun q hq => hD q (by
    rcases List.mem_append.mp hq with h | h
    · exact List.mem_append.mpr (.inl h)
    · refine List.mem_append.mpr (.inr ?_)
      rcases List.mem_cons.mp h with rfl | h
      · exact .head _
      · rcases List.mem_cons.mp h with rfl | h
        · exact .tail _ (.head _)
        · exact .tail _ (.tail _ (.tail _ h)))
  exact nd_perm h2 (by
    rw [List.perm_iff_count]; intro a; simp only [Wo.putHl, List.map_append, List.map_cons, List.count_append, List.count_cons]; omega)
section
variable {prog : Program} {w : World} {A : Around} {E : Value → Shared → Prop} {s : Shared} {h₀ : Heap} {L : Addr} {m : Str → Option Value} {W : Wo} {pre R : Led}
theorem set_holders {Q : Unit → Shared → Prop} {D : Addr} {xs : List Value} {c : Nat} (F : Fr h₀ L s.heap m) (X : (Mine.hd.heap_39 w.params).In h₀) (N : News h₀ L s.heap ((D, listOf xs.toArray c) :: (pre ++ (wl W ++ R)))) (S : WIs W) (hd : ND ((D, listOf xs.toArray c) :: (pre ++ (wl W ++ R))))
    (hs : findIn (Mine.hd.heap_39 w.params) (.ref 280) "__setattr__" = some (some (.builtin "object.__setattr__"))) (hp : plainOver (Mine.hd.heap_39 w.params) 280 = true) (ht : takerIn (Mine.hd.heap_39 w.params) 280 "holders" = some none) (hh : hasDictIn (Mine.hd.heap_39 w.params) 280 = true)
    (h : ∀ h' es n, Fr h₀ L h' m → WIs (W.putHl es n D xs c) → News h₀ L h' (pre ++ (wl (W.putHl es n D xs c) ++ R)) → Q () { s with heap := h', toks := s.toks + 2 }) :
    wpAny (model prog w) A (setAttr (.ref W.x) "holders" (.ref D)) Q E s := by
  have hi : (W.x, instObj 280 W.d) ∈ (D, listOf xs.toArray c) :: (pre ++ (wl W ++ R)) := .tail _ W_mem_x
  have hdd : (W.d, dictOf W.es W.n) ∈ (D, listOf xs.toArray c) :: (pre ++ (wl W ++ R)) := .tail _ W_mem_d
  refine set_dict F X N (InstAt.of_news N hi hdd) rfl hs hp ht hh (some_of S.holders) rfl (upd_d (pre := (D, listOf xs.toArray c) :: pre) _ _ 0 0 (by exact hd)) (len_put S) ?_
  intro h' F' N'
  refine h h' (putL "holders" (PyData.keyHash w.params "holders") (.str "holders" (s.toks + 1)) (.ref D) W.es) (putN "holders" W.es W.n) F' S.putHl (news_sub N' fun p hp => ?_)
  rw [List.cons_append]
  rcases List.mem_append.mp hp with hp | hp
  · exact .tail _ (List.mem_append.mpr (.inl hp))
  · rcases List.mem_cons.mp hp with rfl | hp
    · exact .tail _ (List.mem_append.mpr (.inr (.head _)))
    · rcases List.mem_cons.mp hp with rfl | hp
      · exact .tail _ (List.mem_append.mpr (.inr (.tail _ (.head _))))
      · rcases List.mem_cons.mp hp with rfl | hp
        · exact .head _
        · exact .tail _ (List.mem_append.mpr (.inr (.tail _ (.tail _ (.tail _ hp)))))
end

/-! the collecting -/
noncomputable def CollP (w : World) (W : Wo) (g : List Nd) (μ : Nat → Mu) (pre : Led) (T : Tr) (r : Value) (nw : Led) : Prop :=
  ∃ (D Dh : Addr) (es : List DictEntry) (n c ch : Nat) (vs : List Value) (f : Nat → Value), r = .ref D ∧ IntsAre vs (pickN (fun i => !decide (i ∈ T.idx)) g.length) ∧ WIs (W.putHl es n Dh (pick (fun i => decide (i ∈ T.idx)) (eRef g) g.length) ch) ∧
    nw = (D, listOf vs.toArray c) :: (pre ++ (wl (W.putHl es n Dh (pick (fun i => decide (i ∈ T.idx)) (eRef g) g.length) ch) ++ nl w.params 0 g (mks μ f))) ∧ ND nw
theorem collect_call {w : World} {W : Wo} {g : List Nd} {μ : Nat → Mu} {pre : Led} {Rx : Addr} {rc : Nat} {n0 : Nd} {T : Tr} {o : Obj} (S : WIs W) (hd : ND (pre ++ (wl W ++ nl w.params 0 g μ))) (hh : W.hs = refs g) (hgl : g.length ≤ 20)
    (hst : ∀ f : Nat → Value, (W.st, o) ∈ pre ++ (wl W ++ nl w.params 0 g (mks μ f))) (ho : o.IsDictOf (strKind PySem.Challenge.rw_sj0191_01.row.prog w) [(Str.ofString "TREE", .ref n0.x)]) (lo : (W.st == sysModules) = false)
    (hR : ∀ f : Nat → Value, (Rx, listOf [].toArray rc) ∈ pre ++ (wl W ++ nl w.params 0 g (mks μ f))) (hT : IsT g μ (.ref n0.x) T) (hnd : T.idx.Nodup) (hz : T.size ≤ 20)
    (hk : ∀ j ∈ T.idx, ∃ o, Bears g μ (μ j).k o ∧ oi o = [] ∧ ow o = 1) (hn : ∀ (j : Nat) (d : Nd), g[j]? = some d → d.num = (j : Int) + 1) :
    Call w 341 [.ref W.x, .ref Rx] 24 (pre ++ (wl W ++ nl w.params 0 g μ)) (CollP w W g μ pre T) := by
  w_top off
  unfold Call
  k_fill
  intro mean mg mb dp un gd cn cs a ccd cl outer A₀ base h₀ L m s Q E B F X N T0 hkk hdp hu ret
  have hi := W_mem_x (W := W) (pre := pre) (R := nl w.params 0 g μ)
  have hdd := W_mem_d (W := W) (pre := pre) (R := nl w.params 0 g μ)
  have hhl := W_mem_h (W := W) (pre := pre) (R := nl w.params 0 g μ)
  refine wpAny_call ?_
  k_dflt ktr_enter
  k_steps
  apply loop_go
  have hsame : ∀ f : Nat → Value, (pre ++ (wl W ++ nl w.params 0 g (mks μ f))).map (·.1) = (pre ++ (wl W ++ nl w.params 0 g μ)).map (·.1) := fun f => by simp [nl_addr]
  refine for_list (news := pre ++ (wl W ++ nl w.params 0 g μ)) (its := W.hs) (fun i m nx => ∃ f, nx = pre ++ (wl W ++ nl w.params 0 g (mks μ f)) ∧ (∀ j, j < i → f j = .int 0 618) ∧ m (Str.ofString "world") = some (.ref W.x) ∧ m (Str.ofString "more_roots") = some (.ref Rx)) rfl hhl (by k_asm) (by k_asm) ?hj ?turn ?done
  case hj => exact ⟨fun j => (μ j).mkv, rfl, fun j h => absurd h (Nat.not_lt_zero j), rfl, rfl⟩
  case turn =>
    rintro i v m₁ nx I oI ol h tk hi1 ⟨f, rfl, hf, q1, q2⟩ hI hIl F1 N1
    obtain rfl : ol = listOf W.hs.toArray W.hn := news_same N1 (.tail _ (.head _)) (.tail _ (.tail _ W_mem_h))
    rw [hh] at hi1
    obtain ⟨n, hgi, rfl⟩ : ∃ n, g[i]? = some n ∧ v = .ref n.x := by
      unfold refs at hi1
      rw [List.getElem?_map] at hi1
      cases hg : g[i]? with
      | none => rw [hg] at hi1; cases hi1
      | some n => rw [hg] at hi1; exact ⟨n, rfl, (Option.some.inj hi1).symm⟩
    k_steps
    apply loop_go
    have hdI : ND ((I, oI) :: (pre ++ wl W) ++ nl w.params 0 g (mks μ f)) := by
      rw [List.cons_append, List.append_assoc]
      exact nd_cons (hd.same (hsame f).symm) hI
    k_dflt (refine set_mark (pre := (I, oI) :: (pre ++ wl W)) (by k_asm) (by k_in) (news_sub N1 ?_) hdI hgi (by k_is) (by k_is) (by k_is) (by k_is) ?_)
    · intro p hp
      rcases List.mem_cons.mp (by rw [List.cons_append] at hp; exact hp) with rfl | hp
      · exact .head _
      · rw [List.append_assoc] at hp; exact .tail _ (.tail _ hp)
    intro h6 F6 N6
    rw [mark_mks] at N6
    k_steps
    refine' LEnd.intro ?F ?N ?hI ?J
    case F => k_asm
    case N =>
      refine news_sub N6 fun p hp => ?_
      rw [List.cons_append, List.append_assoc]
      rcases List.mem_cons.mp hp with rfl | hp
      · exact .head _
      · rcases List.mem_cons.mp hp with rfl | hp
        · exact .tail _ W_mem_h
        · exact .tail _ hp
    case hI =>
      intro q hq
      have h1 := List.mem_map_of_mem (f := (·.1)) hq
      have h2 : q.1 ∈ (pre ++ (wl W ++ nl w.params 0 g (mks μ f))).map (·.1) := ((hsame (fun j => if j = i then .int 0 618 else f j)).trans (hsame f).symm) ▸ h1
      obtain ⟨r, hr, e⟩ := List.mem_map.mp h2
      exact e ▸ hI r hr
    case J =>
      refine ⟨_, rfl, fun j hj => ?_, q1, q2⟩
      by_cases hji : j = i
      · rw [if_pos hji]
      · rw [if_neg hji]; exact hf j (by omega)
  case done =>
    rintro m₁ nx h tk ⟨f, rfl, hf, q1, q2⟩ F1 N1
    have hi := W_mem_x (W := W) (pre := pre) (R := nl w.params 0 g (mks μ f))
    have hdd := W_mem_d (W := W) (pre := pre) (R := nl w.params 0 g (mks μ f))
    have hhl := W_mem_h (W := W) (pre := pre) (R := nl w.params 0 g (mks μ f))
    have hRx := hR f
    k_steps
    apply loop_go
    refine call_use2 (C := roots_call S hi hdd (hst f) ho lo) (ret := ?_)
    k_whole
    rintro r5 n5 h5 tk5 ⟨B5, c5, rfl, rfl, l5⟩ F5 N5
    k_steps
    apply loop_go
    rename_i D6 h6 F6 N6 l6
    have hd6 : ND (((D6, listOf [Value.ref n0.x].toArray 0) :: (pre ++ wl W)) ++ nl w.params 0 g (mks μ f)) := by
      rw [List.cons_append, List.append_assoc]
      exact nd_cons (hd.same (hsame f).symm) fun q hq => Nat.ne_of_lt (ktn_ltOf l6.2 q hq)
    refine call_use2 (N := news_sub N6 ?_) (C := reach_call (pre := (D6, listOf [Value.ref n0.x].toArray 0) :: (pre ++ wl W)) (c := 0) hd6 (.head _) (isT_mks hT) hnd hz (fun j hj => by obtain ⟨o, h1, h2, h3⟩ := hk j hj; exact ⟨o, bears_mks h1, h2, h3⟩) hn) (ret := ?_)
    · intro p hp
      rw [List.cons_append, List.append_assoc] at hp
      rcases List.mem_cons.mp hp with rfl | hp
      · exact .head _
      · exact .tail _ (.tail _ hp)
    k_whole
    rintro r7 n7 h7 tk7 rfl F7 N7
    have N7' := news_sub (l' := pre ++ (wl W ++ nl w.params 0 g (mks μ fun j => if j ∈ T.idx then .int 1 620 else f j))) N7 (fun p hp => by rw [List.cons_append, List.append_assoc]; exact .tail _ hp)
    clear N7
    have hi := W_mem_x (W := W) (pre := pre) (R := nl w.params 0 g (mks μ fun j => if j ∈ T.idx then .int 1 620 else f j))
    have hdd := W_mem_d (W := W) (pre := pre) (R := nl w.params 0 g (mks μ fun j => if j ∈ T.idx then .int 1 620 else f j))
    have hhl := W_mem_h (W := W) (pre := pre) (R := nl w.params 0 g (mks μ fun j => if j ∈ T.idx then .int 1 620 else f j))
    k_steps
    apply loop_go
    have hz2 : W.hs.length ≤ sizeLine := by rw [hh, refs_len, sizeLine_eq]; omega
    have hmem : ∀ {led : Led}, (∀ p ∈ pre ++ (wl W ++ nl w.params 0 g (mks μ fun j => if j ∈ T.idx then .int 1 620 else f j)), p ∈ led) → ∀ (i : Nat) (n : Nd), g[i]? = some n → (n.x, instObj 225 n.dx) ∈ led ∧ (n.dx, ndDict w.params n (if i ∈ T.idx then .int 1 620 else .int 0 618)) ∈ led := by
      intro led hs i n e
      have hil : i < g.length := (List.getElem?_eq_some_iff.mp e).1
      have h0 : 0 + i = i := Nat.zero_add i
      have hfi : f i = .int 0 618 := hf i (by rw [hh, refs_len]; exact hil)
      have hs2 : ∀ p ∈ nl w.params 0 g (mks μ fun j => if j ∈ T.idx then .int 1 620 else f j), p ∈ led := fun p hp => hs p (List.mem_append.mpr (.inr (List.mem_append.mpr (.inr hp))))
      refine ⟨hs2 _ (mem_nl (i := 0) e (.head _)), ?_⟩
      have h3 := hs2 _ (mem_nl (p := (n.dx, ndDict w.params n (if i ∈ T.idx then .int 1 620 else f i))) (i := 0) e (by rw [h0]; exact .tail _ (.head _)))
      rwa [hfi] at h3
    k_dflt (refine LCt.ListComp_T (F₀ := by k_asm) (by with_unfolding_all rfl) (by decide) (by rfl) (by decide) (by rfl) ?_)
    refine wpAny_mono (Q := SrcEnd _) ?_ (fun _ _ h => h) (fun _ _ h => h)
    k_steps
    refine src_test (fun i => !decide (i ∈ T.idx)) (eNum g) rfl (by k_asm) (by k_asm) hhl hz2 ?htst ?hel ?fin
    case htst =>
      intro gh i v1 hv C oC m₂ h tk led E' hoC hx2 F' N' hC hsub
      rw [hh] at hv
      obtain ⟨n, hgi, rfl⟩ := refs_inv hv
      obtain ⟨hi2, hd2⟩ := hmem hsub i n hgi
      refine wpAny_mono (Q := TstEnd _ _ _ _ led (!decide (i ∈ T.idx))) ?_ (fun _ _ h => h) (fun _ _ h => h)
      by_cases hiT : i ∈ T.idx
      · rw [if_pos hiT] at hd2
        k_steps
        exact TstEnd.intro (by simp [hiT]) (by k_asm) (by k_asm)
      · rw [if_neg hiT] at hd2
        k_steps
        exact TstEnd.intro (by simp [hiT]) (by k_asm) (by k_asm)
    case hel =>
      intro gh i v1 hv _ C oC m₂ h tk led E' hoC hx2 F' N' hC hsub
      rw [hh] at hv
      obtain ⟨n, hgi, rfl⟩ := refs_inv hv
      obtain ⟨hi2, hd2⟩ := hmem hsub i n hgi
      refine wpAny_mono (Q := EltEnd _ _ _ _ led (· = eNum g i)) ?_ (fun _ _ h => h) (fun _ _ h => h)
      have he : eNum g i = .int n.num n.nt := by unfold eNum; rw [hgi]
      k_steps
      exact EltEnd.intro he.symm (by k_asm) (by k_asm)
    case fin =>
      intro gh D8 h8 tk8 F8 N8 o8
      k_steps
      have hgl2 : W.hs.length = g.length := by rw [hh, refs_len]
      have hia := pick_ints (b := fun i => !decide (i ∈ T.idx)) hn W.hs.length (Nat.le_of_eq hgl2)
      refine kso_sorted (by k_asm) (by k_asm) (listAt N8 (.head _)) hia (by have := pickN_len (fun i => !decide (i ∈ T.idx)) W.hs.length; omega) ?_
      intro D9 vs9 ns9 c9 h9 F9 N9 l9 i9 _ p9 s9 _
      obtain rfl := lks_uniq p9 s9 (pickN_sorted _ _)
      k_steps
      apply loop_go
      k_dflt (refine LCt.ListComp_T (F₀ := by k_asm) (by with_unfolding_all rfl) (by decide) (by rfl) (by decide) (by rfl) ?_)
      refine wpAny_mono (Q := SrcEnd _) ?_ (fun _ _ h => h) (fun _ _ h => h)
      have hi3 := hi
      k_steps
      refine src_test (fun i => decide (i ∈ T.idx)) (eRef g) rfl (by k_asm) (by k_asm) (.tail _ (.tail _ hhl)) hz2 ?htst ?hel ?fin
      case htst =>
        intro gh i v1 hv C oC m₂ h tk led E' hoC hx2 F' N' hC hsub
        rw [hh] at hv
        obtain ⟨n, hgi, rfl⟩ := refs_inv hv
        obtain ⟨hi2, hd2⟩ := hmem (fun p hp => hsub p (.tail _ (.tail _ hp))) i n hgi
        refine wpAny_mono (Q := TstEnd _ _ _ _ led (decide (i ∈ T.idx))) ?_ (fun _ _ h => h) (fun _ _ h => h)
        by_cases hiT : i ∈ T.idx
        · rw [if_pos hiT] at hd2
          k_steps
          exact TstEnd.intro (by simp [hiT]) (by k_asm) (by k_asm)
        · rw [if_neg hiT] at hd2
          k_steps
          exact TstEnd.intro (by simp [hiT]) (by k_asm) (by k_asm)
      case hel =>
        intro gh i v1 hv _ C oC m₂ h tk led E' hoC hx2 F' N' hC hsub
        rw [hh] at hv
        obtain ⟨n, hgi, rfl⟩ := refs_inv hv
        refine wpAny_mono (Q := EltEnd _ _ _ _ led (· = eRef g i)) ?_ (fun _ _ h => h) (fun _ _ h => h)
        have he : eRef g i = .ref n.x := by unfold eRef; rw [hgi]
        k_steps
        exact EltEnd.intro he.symm (by k_asm) (by k_asm)
      case fin =>
        intro gh D10 h10 tk10 F10 N10 o10
        have o11 := off1_mem o10
        k_steps
        have hd9 : ND ((D9, listOf vs9.toArray c9) :: (pre ++ (wl W ++ nl w.params 0 g (mks μ fun j => if j ∈ T.idx then .int 1 620 else f j)))) := nd_cons (hd.same (hsame _).symm) fun q hq => Nat.ne_of_lt (l9 q (.tail _ hq))
        have hne : ∀ q ∈ (D9, listOf vs9.toArray c9) :: (pre ++ (wl W ++ nl w.params 0 g (mks μ fun j => if j ∈ T.idx then .int 1 620 else f j))), q.1 ≠ D10 := fun q hq => o11 q (by
          rcases List.mem_cons.mp hq with rfl | hq
          · exact .head _
          · exact .tail _ (.tail _ hq))
        rw [hgl2] at i9 N10
        apply loop_go
        k_dflt (refine set_holders (c := (pick (fun i => decide (i ∈ T.idx)) (eRef g) g.length).length) (pre := (D9, listOf vs9.toArray c9) :: pre) (xs := pick (fun i => decide (i ∈ T.idx)) (eRef g) g.length) (by k_asm) (by k_in) (news_sub N10 ?_) S (nd_cons hd9 hne) (by k_is) (by k_is) (by k_is) (by k_is) ?_)
        · intro p hp
          rcases List.mem_cons.mp hp with rfl | hp
          · exact .head _
          · rw [List.cons_append] at hp
            rcases List.mem_cons.mp hp with rfl | hp
            · exact .tail _ (.head _)
            · exact .tail _ (.tail _ (.tail _ hp))
        intro h11 es11 n11 F11 S11 N11
        k_steps
        exact ret _ _ _ _ ⟨D9, D10, es11, n11, c9, _, vs9, _, rfl, i9, S11, rfl, nd_putHl (pre := (D9, listOf vs9.toArray c9) :: pre) hd9 hne⟩ (by k_asm) (by k_asm)

/-! turns, told of trees -/
noncomputable def rot : Fd → Tr → Tr
  | .L, .node (.node a k b) j r => .node a k (.node b j r)
  | .R, .node l j (.node a k b) => .node (.node l j a) k b
  | _, T => T
theorem Mu.ext_get {a b : Mu} (hm : a.mkv = b.mkv) (h : ∀ f, a.get f = b.get f) : a = b := by
  have h1 := h .L
  have h2 := h .K
  have h3 := h .R
  obtain ⟨a1, a2, a3, a4⟩ := a
  obtain ⟨b1, b2, b3, b4⟩ := b
  simp only [Mu.get] at h1 h2 h3 hm
  subst h1; subst h2; subst h3; subst hm
  rfl
theorem put_mkv {μ : Nat → Mu} {i j : Nat} {f : Fd} {v : Value} : (put μ i f v j).mkv = (μ j).mkv := by
  by_cases h : j = i
  · subst h; unfold put; rw [setMu_same]; cases f <;> rfl
  · unfold put; rw [setMu_ne μ _ h]
open Classical in
theorem put_get {μ : Nat → Mu} {i j : Nat} {f e : Fd} {v : Value} : (put μ i f v j).get e = if j = i ∧ e = f then v else (μ j).get e := by
  by_cases h : j = i ∧ e = f
  · rw [if_pos h]; obtain ⟨rfl, rfl⟩ := h; exact put_get_same
  · rw [if_neg h]; exact put_get_ne h
theorem opp_opp {sd : Fd} (h : sd ≠ .K) : opp (opp sd) = sd := by cases sd <;> first | rfl | exact absurd rfl h
theorem opp_ne {sd : Fd} : opp sd ≠ .K := by cases sd <;> simp [opp]
noncomputable def turned (μ : Nat → Mu) (i : Nat) (f : Fd) (j k : Nat) (sd : Fd) (u w : Value) : Nat → Mu := put (put (put μ j sd ((μ k).get (opp sd))) k (opp sd) u) i f w
open Classical in
theorem turned_get {μ : Nat → Mu} {i j k x : Nat} {f sd e : Fd} {u w : Value} : (turned μ i f j k sd u w x).get e = if x = i ∧ e = f then w else if x = k ∧ e = opp sd then u else if x = j ∧ e = sd then (μ k).get (opp sd) else (μ x).get e := by
  unfold turned; rw [put_get, put_get, put_get]
theorem turned_mkv {μ : Nat → Mu} {i j k x : Nat} {f sd : Fd} {u w : Value} : (turned μ i f j k sd u w x).mkv = (μ x).mkv := by
  unfold turned; rw [put_mkv, put_mkv, put_mkv]
theorem turned_back {μ : Nat → Mu} {i j k : Nat} {f sd : Fd} {u w : Value} (hsd : sd ≠ .K) (h1 : i ≠ j) (h2 : i ≠ k) (h3 : j ≠ k) (hu : (μ i).get f = u) (hw : (μ j).get sd = w) :
    turned (turned μ i f j k sd u w) i f k j (opp sd) w u = μ := by
  funext x
  refine Mu.ext_get (by rw [turned_mkv, turned_mkv]) fun e => ?_
  rw [turned_get, opp_opp hsd]
  by_cases a1 : x = i ∧ e = f
  · rw [if_pos a1, a1.1, a1.2, hu]
  rw [if_neg a1]
  by_cases a2 : x = j ∧ e = sd
  · rw [if_pos a2, a2.1, a2.2, hw]
  rw [if_neg a2]
  by_cases a3 : x = k ∧ e = opp sd
  · rw [if_pos a3, turned_get, if_neg (by omega), if_neg (by omega), if_pos ⟨rfl, rfl⟩, a3.1, a3.2]
  rw [if_neg a3, turned_get, if_neg a1, if_neg a3, if_neg a2]
theorem turned_k {μ : Nat → Mu} {i j k x : Nat} {f sd : Fd} {u w : Value} (hsd : sd ≠ .K) (hf : Fd.K ≠ f) : (turned μ i f j k sd u w x).k = (μ x).k := by
  have h := turned_get (μ := μ) (i := i) (j := j) (k := k) (x := x) (f := f) (sd := sd) (e := .K) (u := u) (w := w)
  rw [if_neg (fun q => hf q.2), if_neg (fun q => opp_ne q.2.symm), if_neg (fun q => hsd q.2.symm)] at h
  exact h
theorem slot0 {c : Cx} {S : Tr} {n : Nat} (h : ∀ j, j ∈ (plug c S).idx ↔ 1 ≤ j ∧ j ≤ n) (h0 : slotI c = 0) : slotF c = .R := by
  have key : ∀ i, i ∈ (plug c S).idx → i ≠ 0 := fun i hi => by have := (h i).mp hi; omega
  cases c with
  | top => rfl
  | l c i r => exact absurd h0 (key i (by rw [plug_idx]; simp [cr]))
  | r l i c => rfl
theorem gr_re {g : List Nd} {μ μ' : Nat → Mu} {c : Cx} {S S' : Tr} {kf : Nat → Int} {n : Nat} (G : Gr g μ (plug c S) kf n) (hk : ∀ x, (μ' x).k = (μ x).k)
    (ag : ∀ (x : Nat) (f : Fd), f ≠ .K → x ∉ S.idx → ¬ (x = slotI c ∧ f = slotF c) → (μ' x).get f = (μ x).get f) (hT : IsT g μ' ((μ' (slotI c)).get (slotF c)) S') (hi : S'.idx = S.idx) : Gr g μ' (plug c S') kf n := by
  have e : (plug c S').idx = (plug c S).idx := by rw [plug_idx, plug_idx, hi]
  have h0 : 0 ∉ S.idx := fun hm => by have := (G.all 0).mp (by rw [plug_idx]; simp [hm]); omega
  have hl : (μ' 0).get .L = (μ 0).get .L := ag 0 .L (by simp) h0 fun q => by have := slot0 G.all q.1.symm; rw [this] at q; cases q.2
  have hgl := G.len
  refine ⟨G.len, G.num, fun j a b => by rw [hk]; exact G.key j a b, ?_, by rw [e]; exact G.all, by rw [e]; exact G.nd, by rw [e]; exact G.sorted, ?_, by rw [hk]; exact G.k0⟩
  · exact isT_replug G.tree G.nd0 ⟨_, List.getElem?_eq_getElem (by omega)⟩ ag hT
  · obtain ⟨t, h⟩ := G.l0
    exact ⟨t, hl.trans h⟩
structure Turn (g : List Nd) (μ : Nat → Mu) (c : Cx) (S : Tr) (kf : Nat → Int) (n : Nat) (sd : Fd) (j k : Nat) (nu nw : Nd) : Prop where
  ej : g[j]? = some nu
  ek : g[k]? = some nw
  hu : (μ (slotI c)).get (slotF c) = .ref nu.x
  hw : (μ j).get sd = .ref nw.x
  gr : Gr g (turned μ (slotI c) (slotF c) j k sd (.ref nu.x) (.ref nw.x)) (plug c (rot sd S)) kf n
  ij : slotI c ≠ j
  ik : slotI c ≠ k
  jk : j ≠ k
  kk : ∀ v : Value, (μ k).get (opp sd) = v → ∃ B, IsT g μ v B ∧ k ∉ B.idx
theorem nd_parts {A B C : List Nat} {k j : Nat} (h : (A ++ k :: (B ++ j :: C)).Nodup) : j ≠ k ∧ k ∉ A ∧ k ∉ B ∧ k ∉ C ∧ j ∉ A ∧ j ∉ B ∧ j ∉ C := by
  obtain ⟨_, h2, h3⟩ := List.nodup_append.mp h
  obtain ⟨h4, h5⟩ := List.nodup_cons.mp h2
  obtain ⟨_, h6, h7⟩ := List.nodup_append.mp h5
  have hj : j ∈ B ++ j :: C := List.mem_append.mpr (.inr (.head _))
  exact ⟨fun e => h4 (e ▸ hj), fun hk => h3 k hk k (.head _) rfl, fun hk => h4 (List.mem_append.mpr (.inl hk)), fun hk => h4 (List.mem_append.mpr (.inr (.tail _ hk))),
    fun hk => h3 j hk j (.tail _ hj) rfl, fun hk => h7 j hk j (.head _) rfl, (List.nodup_cons.mp h6).1⟩
theorem gr_turn {g : List Nd} {μ : Nat → Mu} {c : Cx} {l r a b : Tr} {j k : Nat} {kf : Nat → Int} {n : Nat} {sd : Fd} (hsd : sd ≠ .K) (G : Gr g μ (plug c (.node l j r)) kf n) (hc : (Tr.node l j r).child sd = .node a k b) :
    ∃ nu nw, Turn g μ c (.node l j r) kf n sd j k nu nw := by
  obtain ⟨n0, e0⟩ : ∃ n0, g[0]? = some n0 := ⟨_, List.getElem?_eq_getElem (by have := G.len; omega)⟩
  have hst := (isT_plug e0 G.tree).1
  have nd := G.nd0
  rw [plug_idx] at nd
  have hsl := slot_off nd
  have nds : (Tr.node l j r).idx.Nodup := (List.nodup_append.mp (List.nodup_append.mp (List.nodup_cons.mp nd).2).2.1).1
  obtain ⟨nu, hu, ej, hl, hr⟩ := isT_node hst
  cases sd with
  | K => exact absurd rfl hsd
  | L =>
    have hc' : l = .node a k b := hc
    subst hc'
    obtain ⟨nw, hw, ek, ha, hb⟩ := isT_node hl
    simp only [Tr.idx, List.append_assoc, List.cons_append] at nds
    obtain ⟨i3, i7, i8, i9, i10, i11, i12⟩ := nd_parts nds
    simp only [Tr.idx, List.mem_append, List.mem_cons, not_or] at hsl
    obtain ⟨⟨i4, i2, i5⟩, i1, i6⟩ := hsl
    have fr : ∀ {v : Value} {t : Tr}, IsT g μ v t → (∀ x ∈ t.idx, x ≠ slotI c ∧ x ≠ j ∧ x ≠ k) → IsT g (turned μ (slotI c) (slotF c) j k .L (.ref nu.x) (.ref nw.x)) v t := fun h hx =>
      isT_frame h fun x hm => by
        obtain ⟨x1, x2, x3⟩ := hx x hm
        have h1 : ∀ e, (turned μ (slotI c) (slotF c) j k .L (.ref nu.x) (.ref nw.x) x).get e = (μ x).get e := fun e => by rw [turned_get, if_neg (fun q => x1 q.1), if_neg (fun q => x3 q.1), if_neg (fun q => x2 q.1)]
        exact ⟨h1 .L, h1 .R⟩
    refine ⟨nu, nw, ej, ek, hu, hw, ?_, i1, i2, i3, fun v hv => ⟨b, hv ▸ hb, i8⟩⟩
    refine gr_re G (fun x => turned_k hsd (slotF_ne c)) (fun x f hf hx hs => ?_) ?_ (by simp [rot, Tr.idx])
    · simp only [Tr.idx, List.mem_append, List.mem_cons, not_or] at hx
      rw [turned_get, if_neg hs, if_neg (fun q => hx.1.2.1 q.1), if_neg (fun q => hx.2.1 q.1)]
    · rw [turned_get, if_pos ⟨rfl, rfl⟩]
      refine .node ek (fr ?_ fun x hx => ⟨fun q => i4 (q ▸ hx), fun q => i10 (q ▸ hx), fun q => i7 (q ▸ hx)⟩) ?_
      · have h1 := turned_get (μ := μ) (i := slotI c) (f := slotF c) (j := j) (k := k) (sd := .L) (u := .ref nu.x) (w := .ref nw.x) (x := k) (e := .L)
        rw [if_neg (fun q => i2 q.1.symm), if_neg (by simp [opp]), if_neg (fun q => i3 q.1.symm)] at h1
        rw [show (turned μ (slotI c) (slotF c) j k .L (.ref nu.x) (.ref nw.x) k).l = (μ k).l from h1]; exact ha
      · have h1 := turned_get (μ := μ) (i := slotI c) (f := slotF c) (j := j) (k := k) (sd := .L) (u := .ref nu.x) (w := .ref nw.x) (x := k) (e := .R)
        rw [if_neg (fun q => i2 q.1.symm), if_pos ⟨rfl, rfl⟩] at h1
        rw [show (turned μ (slotI c) (slotF c) j k .L (.ref nu.x) (.ref nw.x) k).r = .ref nu.x from h1]
        refine .node ej ?_ ?_
        · have h1 := turned_get (μ := μ) (i := slotI c) (f := slotF c) (j := j) (k := k) (sd := .L) (u := .ref nu.x) (w := .ref nw.x) (x := j) (e := .L)
          rw [if_neg (fun q => i1 q.1.symm), if_neg (by simp [opp]), if_pos ⟨rfl, rfl⟩] at h1
          rw [show (turned μ (slotI c) (slotF c) j k .L (.ref nu.x) (.ref nw.x) j).l = (μ k).r from h1]
          exact fr hb fun x hx => ⟨fun q => i5 (q ▸ hx), fun q => i11 (q ▸ hx), fun q => i8 (q ▸ hx)⟩
        · have h1 := turned_get (μ := μ) (i := slotI c) (f := slotF c) (j := j) (k := k) (sd := .L) (u := .ref nu.x) (w := .ref nw.x) (x := j) (e := .R)
          rw [if_neg (fun q => i1 q.1.symm), if_neg (fun q => i3 q.1), if_neg (by simp)] at h1
          rw [show (turned μ (slotI c) (slotF c) j k .L (.ref nu.x) (.ref nw.x) j).r = (μ j).r from h1]
          exact fr hr fun x hx => ⟨fun q => i6 (q ▸ hx), fun q => i12 (q ▸ hx), fun q => i9 (q ▸ hx)⟩
  | R =>
    have hc' : r = .node a k b := hc
    subst hc'
    obtain ⟨nw, hw, ek, ha, hb⟩ := isT_node hr
    simp only [Tr.idx] at nds
    obtain ⟨i3', i12, i10, i11, i9, i7, i8⟩ := nd_parts nds
    have i3 := Ne.symm i3'
    simp only [Tr.idx, List.mem_append, List.mem_cons, not_or] at hsl
    obtain ⟨i6, i1, i4, i2, i5⟩ := hsl
    have fr : ∀ {v : Value} {t : Tr}, IsT g μ v t → (∀ x ∈ t.idx, x ≠ slotI c ∧ x ≠ j ∧ x ≠ k) → IsT g (turned μ (slotI c) (slotF c) j k .R (.ref nu.x) (.ref nw.x)) v t := fun h hx =>
      isT_frame h fun x hm => by
        obtain ⟨x1, x2, x3⟩ := hx x hm
        have h1 : ∀ e, (turned μ (slotI c) (slotF c) j k .R (.ref nu.x) (.ref nw.x) x).get e = (μ x).get e := fun e => by rw [turned_get, if_neg (fun q => x1 q.1), if_neg (fun q => x3 q.1), if_neg (fun q => x2 q.1)]
        exact ⟨h1 .L, h1 .R⟩
    refine ⟨nu, nw, ej, ek, hu, hw, ?_, i1, i2, i3, fun v hv => ⟨a, hv ▸ ha, i7⟩⟩
    refine gr_re G (fun x => turned_k hsd (slotF_ne c)) (fun x f hf hx hs => ?_) ?_ (by simp [rot, Tr.idx])
    · simp only [Tr.idx, List.mem_append, List.mem_cons, not_or] at hx
      rw [turned_get, if_neg hs, if_neg (fun q => hx.2.2.2.1 q.1), if_neg (fun q => hx.2.1 q.1)]
    · rw [turned_get, if_pos ⟨rfl, rfl⟩]
      refine .node ek ?_ (fr ?_ fun x hx => ⟨fun q => i5 (q ▸ hx), fun q => i11 (q ▸ hx), fun q => i8 (q ▸ hx)⟩)
      · have h1 := turned_get (μ := μ) (i := slotI c) (f := slotF c) (j := j) (k := k) (sd := .R) (u := .ref nu.x) (w := .ref nw.x) (x := k) (e := .L)
        rw [if_neg (fun q => i2 q.1.symm), if_pos ⟨rfl, rfl⟩] at h1
        rw [show (turned μ (slotI c) (slotF c) j k .R (.ref nu.x) (.ref nw.x) k).l = .ref nu.x from h1]
        refine .node ej ?_ ?_
        · have h1 := turned_get (μ := μ) (i := slotI c) (f := slotF c) (j := j) (k := k) (sd := .R) (u := .ref nu.x) (w := .ref nw.x) (x := j) (e := .L)
          rw [if_neg (fun q => i1 q.1.symm), if_neg (fun q => i3 q.1), if_neg (by simp)] at h1
          rw [show (turned μ (slotI c) (slotF c) j k .R (.ref nu.x) (.ref nw.x) j).l = (μ j).l from h1]
          exact fr hl fun x hx => ⟨fun q => i6 (q ▸ hx), fun q => i12 (q ▸ hx), fun q => i9 (q ▸ hx)⟩
        · have h1 := turned_get (μ := μ) (i := slotI c) (f := slotF c) (j := j) (k := k) (sd := .R) (u := .ref nu.x) (w := .ref nw.x) (x := j) (e := .R)
          rw [if_neg (fun q => i1 q.1.symm), if_neg (by simp [opp]), if_pos ⟨rfl, rfl⟩] at h1
          rw [show (turned μ (slotI c) (slotF c) j k .R (.ref nu.x) (.ref nw.x) j).r = (μ k).l from h1]
          exact fr ha fun x hx => ⟨fun q => i4 (q ▸ hx), fun q => i10 (q ▸ hx), fun q => i7 (q ▸ hx)⟩
      · have h1 := turned_get (μ := μ) (i := slotI c) (f := slotF c) (j := j) (k := k) (sd := .R) (u := .ref nu.x) (w := .ref nw.x) (x := k) (e := .R)
        rw [if_neg (fun q => i2 q.1.symm), if_neg (by simp [opp]), if_neg (fun q => i3 q.1.symm)] at h1
        rw [show (turned μ (slotI c) (slotF c) j k .R (.ref nu.x) (.ref nw.x) k).r = (μ k).r from h1]; exact hb

/-! the links as numbers -/
theorem nd_x {a b : Nd} : ∀ {g : List Nd} {i j : Nat}, Sep g → g[i]? = some a → g[j]? = some b → a.x = b.x → i = j
  | m :: r, 0, 0, _, _, _, _ => rfl
  | m :: r, 0, j + 1, sp, h1, h2, e => by
    have e1 : m = a := Option.some.inj h1
    subst e1
    have sp' : ([m.x, m.dx, m.fx, m.vx] ++ addrs r).Nodup := sp
    exact absurd e ((List.nodup_append.mp sp').2.2 m.x (by simp) b.x (addr_mem (g := r) (j := j) (by simpa using h2)).1)
  | m :: r, i + 1, 0, sp, h1, h2, e => by
    have e1 : m = b := Option.some.inj h2
    subst e1
    have sp' : ([m.x, m.dx, m.fx, m.vx] ++ addrs r).Nodup := sp
    exact absurd e.symm ((List.nodup_append.mp sp').2.2 m.x (by simp) a.x (addr_mem (g := r) (j := i) (by simpa using h1)).1)
  | m :: r, i + 1, j + 1, sp, h1, h2, e => by
    have sp' : ([m.x, m.dx, m.fx, m.vx] ++ addrs r).Nodup := sp
    rw [nd_x (g := r) (i := i) (j := j) (List.nodup_append.mp sp').2.1 (by simpa using h1) (by simpa using h2) e]
theorem lk_fun {g : List Nd} {v : Value} {z z' : Int} (sp : Sep g) (h : Lk g v z) (h' : Lk g v z') : z = z' := by
  rcases h with ⟨t, rfl, rfl⟩ | ⟨j, n, e, rfl, rfl⟩ <;> rcases h' with ⟨t', e1, rfl⟩ | ⟨j', n', e', e1, rfl⟩
  · rfl
  · cases e1
  · cases e1
  · have ex : n.x = n'.x := by injection e1
    have := nd_x sp e e' ex
    subst this
    rw [Option.some.inj (e.symm.trans e')]
open Classical in
noncomputable def lz (g : List Nd) (v : Value) : Int := if h : ∃ z, Lk g v z then h.choose else 0
theorem lz_lk {g : List Nd} {v : Value} (h : ∃ z, Lk g v z) : Lk g v (lz g v) := by unfold lz; rw [dif_pos h]; exact h.choose_spec
theorem lz_eq {g : List Nd} {v : Value} {z : Int} (sp : Sep g) (h : Lk g v z) : lz g v = z := lk_fun sp (lz_lk ⟨z, h⟩) h
theorem isT_lk {g : List Nd} {μ : Nat → Mu} {v : Value} {T : Tr} (h : IsT g μ v T) : ∃ z, Lk g v z := by
  cases h with
  | nil => exact ⟨0, .inl ⟨_, rfl, rfl⟩⟩
  | node e _ _ => exact ⟨_, .inr ⟨_, _, e, rfl, rfl⟩⟩
theorem isT_at {g : List Nd} {μ : Nat → Mu} {v : Value} {T : Tr} (h : IsT g μ v T) : ∀ j ∈ T.idx, ∃ l r, IsT g μ (μ j).l l ∧ IsT g μ (μ j).r r := by
  induction h with
  | nil => intro j hj; simp [Tr.idx] at hj
  | node e hl hr ihl ihr =>
    intro j hj
    simp only [Tr.idx, List.mem_append, List.mem_cons] at hj
    rcases hj with hj | rfl | hj
    · exact ihl j hj
    · exact ⟨_, _, hl, hr⟩
    · exact ihr j hj
theorem gr_lk {g : List Nd} {μ : Nat → Mu} {T : Tr} {kf : Nat → Int} {n i : Nat} (G : Gr g μ T kf n) (h : i < g.length) : Lk g (μ i).l (lz g (μ i).l) ∧ Lk g (μ i).r (lz g (μ i).r) := by
  have hgl := G.len
  by_cases h0 : i = 0
  · subst h0
    obtain ⟨t, h1⟩ := G.l0
    exact ⟨lz_lk ⟨0, .inl ⟨t, h1, rfl⟩⟩, lz_lk (isT_lk G.tree)⟩
  · obtain ⟨l, r, h1, h2⟩ := isT_at G.tree i ((G.all i).mpr (by omega))
    exact ⟨lz_lk (isT_lk h1), lz_lk (isT_lk h2)⟩
noncomputable def lkL (g : List Nd) (μ : Nat → Mu) (σ : List Nat) : List Int := σ.flatMap fun i => [lz g (μ i).l, lz g (μ i).r]
theorem flat_len {f h : Nat → Int} : ∀ σ : List Nat, (σ.flatMap fun i => [f i, h i]).length = 2 * σ.length
  | [] => rfl
  | a :: r => by simp only [List.flatMap_cons, List.length_append, List.length_cons, List.length_nil, flat_len r]; omega
theorem flat_at {f h : Nat → Int} : ∀ (σ : List Nat) (k : Nat), k < 2 * σ.length → (σ.flatMap fun i => [f i, h i])[k]? = some (lkZ f h σ k)
  | [], k, hk => by simp at hk
  | a :: r, 0, _ => rfl
  | a :: r, 1, _ => rfl
  | a :: r, k + 2, hk => by
    have e := flat_at (f := f) (h := h) r k (by simp only [List.length_cons] at hk; omega)
    have e2 : lkZ f h (a :: r) (k + 2) = lkZ f h r k := by
      unfold lkZ
      rw [show (k + 2) / 2 = k / 2 + 1 by omega, show (k + 2) % 2 = k % 2 by omega, List.getElem?_cons_succ]
    rw [e2, ← e]
    rfl
theorem links_ints {f h : Nat → Int} {σ : List Nat} {ys : List Value} (hl : ys.length = 2 * σ.length) (hy : ∀ i y, ys[i]? = some y → ∃ z tz, y = Value.int z tz ∧ lkZ f h σ i = z) : IntsAre ys (σ.flatMap fun i => [f i, h i]) :=
  kdy_ints (by rw [flat_len]; exact hl) fun j v hv => by
    obtain ⟨z, tz, rfl, e⟩ := hy j v hv
    exact ⟨z, by rw [flat_at σ j (by rw [← hl]; exact (List.getElem?_eq_some_iff.mp hv).1), e], tz, rfl⟩
noncomputable def LksP (g : List Nd) (μ : Nat → Mu) (σ : List Nat) (news : Led) (r : Value) (nw : Led) : Prop :=
  ∃ (D : Addr) (ys : List Value) (c : Nat), r = .ref D ∧ IntsAre ys (lkL g μ σ) ∧ (∀ p ∈ news, p.1 ≠ D) ∧ nw = (D, listOf ys.toArray c) :: news
theorem Call.mono {w : World} {f : Addr} {args : List Value} {cost cost' : Nat} {news : Led} {post post' : Value → Led → Prop} (C : Call w f args cost news post) (hp : ∀ r nw, post r nw → post' r nw) (hc : cost ≤ cost' := by exact Nat.le_refl _) : Call w f args cost' news post' := by
  unfold Call at C ⊢
  intro mean mg mb dp un gd cn cs a ccd cl outer A₀ base h₀ L m s Q E B F X N T hk hd hu ret
  exact C mean mg mb dp un gd cn cs a ccd cl outer A₀ base h₀ L m s Q E B F X N T hk (by omega) (by omega) fun r nw h tk p => ret r nw h tk (hp r nw p)
theorem Call.post {w : World} {f : Addr} {args : List Value} {cost : Nat} {news : Led} {post post' : Value → Led → Prop} (C : Call w f args cost news post) (hp : ∀ r nw, post r nw → ∃ nw', post' r nw' ∧ ∀ p ∈ nw', p ∈ nw) : Call w f args cost news post' := by
  unfold Call at C ⊢
  intro mean mg mb dp un gd cn cs a ccd cl outer A₀ base h₀ L m s Q E B F X N T hk hd hu ret
  refine C mean mg mb dp un gd cn cs a ccd cl outer A₀ base h₀ L m s Q E B F X N T hk hd hu fun r nw h tk p F1 N1 => ?_
  obtain ⟨nw1, p1, s1⟩ := hp r nw p
  exact ret r nw1 h tk p1 F1 (news_sub N1 s1)
theorem lks_call {w : World} {g : List Nd} {μ : Nat → Mu} {T : Tr} {kf : Nat → Int} {n : Nat} {σ : List Nat} {its : List Value} {tx : Addr} {c : Nat} {news : Led} (G : Gr g μ T kf n) (hs : ∀ p ∈ nl w.params 0 g μ, p ∈ news) (ht : (tx, listOf its.toArray c) ∈ news) (hr : Refs g σ its) (hz : its.length ≤ 100)
    (hσ : ∀ i ∈ σ, i < g.length) : Call w 367 [.ref tx] 12 news (LksP g μ σ news) :=
  (links_call hs ht hr hz (za := fun i => lz g (μ i).l) (zb := fun i => lz g (μ i).r) (fun i hi => (gr_lk G (hσ i hi)).1) (fun i hi => (gr_lk G (hσ i hi)).2)).mono
    fun r nw ⟨D, ys, c, e1, e2, e3, e4, e5⟩ => ⟨D, ys, c, e1, links_ints (by rw [e2, hr.1]) e3, e4, e5⟩
theorem refs_all (g : List Nd) : Refs g (List.range g.length) (refs g) :=
  ⟨by rw [refs_len, List.length_range], fun j i h => by
    obtain ⟨h1, h2⟩ := List.getElem?_eq_some_iff.mp h
    simp only [List.length_range] at h1
    rw [List.getElem_range] at h2
    subst h2
    exact ⟨g[j], List.getElem?_eq_getElem h1, refs_at2 (List.getElem?_eq_getElem h1)⟩⟩
theorem lkL_at {g : List Nd} {μ : Nat → Mu} {n i : Nat} (h : i < n) : (lkL g μ (List.range n))[2 * i]? = some (lz g (μ i).l) ∧ (lkL g μ (List.range n))[2 * i + 1]? = some (lz g (μ i).r) := by
  have e : (List.range n)[i]? = some i := by simp [h]
  unfold lkL
  rw [flat_at _ _ (by simp; omega), flat_at _ _ (by simp; omega)]
  unfold lkZ
  rw [show 2 * i / 2 = i by omega, show (2 * i + 1) / 2 = i by omega, e]
  simp only [show 2 * i % 2 = 0 by omega, show (2 * i + 1) % 2 = 1 by omega]
  exact ⟨rfl, rfl⟩
theorem turn_lk {g : List Nd} {μ : Nat → Mu} {c : Cx} {S T : Tr} {kf : Nat → Int} {n : Nat} {sd : Fd} {j k : Nat} {nu nw : Nd} (sp : Sep g) (hsd : sd ≠ .K) (G : Gr g μ T kf n) (t : Turn g μ c S kf n sd j k nu nw) :
    lkL g (turned μ (slotI c) (slotF c) j k sd (.ref nu.x) (.ref nw.x)) (List.range g.length) ≠ lkL g μ (List.range g.length) := by
  intro e
  have hj : j < g.length := (List.getElem?_eq_some_iff.mp t.ej).1
  have h1 := lkL_at (g := g) (μ := turned μ (slotI c) (slotF c) j k sd (.ref nu.x) (.ref nw.x)) hj
  have h2 := lkL_at (g := g) (μ := μ) hj
  rw [e] at h1
  have hg : lz g ((turned μ (slotI c) (slotF c) j k sd (.ref nu.x) (.ref nw.x) j).get sd) = lz g ((μ j).get sd) := by
    cases sd with
    | L => exact Option.some.inj (h1.1.symm.trans h2.1)
    | K => exact absurd rfl hsd
    | R => exact Option.some.inj (h1.2.symm.trans h2.2)
  rw [turned_get, if_neg (fun q => t.ij q.1.symm), if_neg (fun q => t.jk q.1), if_pos ⟨rfl, rfl⟩, t.hw, lz_eq sp (v := .ref nw.x) (.inr ⟨k, nw, t.ek, rfl, rfl⟩), G.num _ _ t.ek] at hg
  obtain ⟨B, hB, hkB⟩ := t.kk _ rfl
  generalize (μ k).get (opp sd) = v at hg hB
  cases hB with
  | nil => rw [lz_eq sp (.inl ⟨_, rfl, rfl⟩)] at hg; omega
  | @node i nn l r e' _ _ =>
    rw [lz_eq sp (v := .ref nn.x) (.inr ⟨_, _, e', rfl, rfl⟩), G.num _ _ e'] at hg
    refine hkB ?_
    simp only [Tr.idx, List.mem_append, List.mem_cons]
    exact .inr (.inl (by omega))

/-! the right edge and the vine -/
noncomputable def spine : Tr → Nat
  | .nil => 0
  | .node _ _ r => spine r + 1
theorem spine_le : ∀ T : Tr, spine T ≤ T.size
  | .nil => Nat.le_refl _
  | .node l _ r => by have := spine_le r; simp only [spine, Tr.size]; omega
noncomputable def vine : List Nat → Tr
  | [] => .nil
  | i :: r => .node .nil i (vine r)
theorem vine_idx : ∀ σ : List Nat, (vine σ).idx = σ
  | [] => rfl
  | i :: r => by simp [vine, Tr.idx, vine_idx r]
noncomputable def Down : Cx → Prop
  | .top => True
  | .l _ _ _ => False
  | .r l _ c => l = .nil ∧ Down c
theorem down_F {c : Cx} (h : Down c) : slotF c = .R := by cases c with
  | top => rfl
  | l _ _ _ => exact h.elim
  | r _ _ _ => rfl
theorem down_vine {c : Cx} : ∀ {σ : List Nat}, Down c → plug c (vine σ) = vine (cl c ++ σ) := by
  induction c with
  | top => exact fun _ => rfl
  | l _ _ _ _ => exact fun h => h.elim
  | r l i c ih =>
    intro σ h
    obtain ⟨rfl, h⟩ := h
    show plug c (vine (i :: σ)) = _
    rw [ih h]; simp [cl, Tr.idx]
/-- the things behind a vine's place -/
noncomputable def vcx : Cx → List Nat → Cx
  | c, [] => c
  | c, i :: r => vcx (.r .nil i c) r
theorem vcx_plug : ∀ {σ : List Nat} {c : Cx} {τ : List Nat}, plug (vcx c σ) (vine τ) = plug c (vine (σ ++ τ))
  | [], _, _ => rfl
  | i :: r, c, τ => by
    show plug (vcx (.r .nil i c) r) (vine τ) = _
    rw [vcx_plug]; rfl
theorem vcx_slot : ∀ {σ : List Nat} {c : Cx} {i : Nat}, slotI (vcx c (σ ++ [i])) = i ∧ slotF (vcx c (σ ++ [i])) = .R
  | [], _, _ => ⟨rfl, rfl⟩
  | j :: r, c, i => vcx_slot (σ := r) (c := .r .nil j c)
theorem gr_root {g : List Nd} {μ : Nat → Mu} {T : Tr} {kf : Nat → Int} {n : Nat} {n0 : Nd} (G : Gr g μ T kf n) (e0 : g[0]? = some n0) : IsT g μ (.ref n0.x) (.node .nil 0 T) := by
  obtain ⟨t, h⟩ := G.l0
  exact .node e0 (h ▸ .nil) G.tree
theorem gr_bears {g : List Nd} {μ : Nat → Mu} {T : Tr} {kf : Nat → Int} {n : Nat} (G : Gr g μ T kf n) : ∀ j, j < g.length → ∃ o, Bears g μ (μ j).k o ∧ oi o = [] ∧ ow o = 1 := by
  intro j hj
  have hgl := G.len
  by_cases h0 : j = 0
  · subst h0
    obtain ⟨t, h⟩ := G.k0
    exact ⟨some .nil, by rw [h]; exact .tree .nil, rfl, rfl⟩
  · obtain ⟨t, h⟩ := G.key j (by omega) (by omega)
    exact ⟨none, by rw [h]; exact .int, rfl, rfl⟩
theorem pickN_none {b : Nat → Bool} : ∀ n, (∀ i, i < n → b i = false) → pickN b n = []
  | 0, _ => rfl
  | n + 1, h => by
    show pickN b n ++ (bif b n then _ else []) = []
    rw [pickN_none n fun i hi => h i (by omega), h n (by omega)]; rfl
noncomputable def CollF (w : World) (W : Wo) (g : List Nd) (μ : Nat → Mu) (pre : Led) (r : Value) (nw : Led) : Prop :=
  ∃ (D Dh : Addr) (es : List DictEntry) (n c ch : Nat) (f : Nat → Value), r = .ref D ∧ WIs (W.putHl es n Dh (refs g) ch) ∧
    nw = (D, listOf [].toArray c) :: (pre ++ (wl (W.putHl es n Dh (refs g) ch) ++ nl w.params 0 g (mks μ f))) ∧ ND nw
theorem intsAre_nil {vs : List Value} (h : IntsAre vs []) : vs = [] := by cases h; rfl
theorem collect_full {w : World} {W : Wo} {g : List Nd} {μ : Nat → Mu} {pre : Led} {Rx : Addr} {rc : Nat} {n0 : Nd} {T : Tr} {o : Obj} {kf : Nat → Int} {n : Nat} (G : Gr g μ T kf n) (e0 : g[0]? = some n0) (hn : n ≤ 15) (S : WIs W) (hd : ND (pre ++ (wl W ++ nl w.params 0 g μ))) (hh : W.hs = refs g)
    (hst : (W.st, o) ∈ W.rest) (ho : o.IsDictOf (strKind PySem.Challenge.rw_sj0191_01.row.prog w) [(Str.ofString "TREE", .ref n0.x)]) (lo : (W.st == sysModules) = false) (hR : (Rx, listOf [].toArray rc) ∈ pre) :
    Call w 341 [.ref W.x, .ref Rx] 24 (pre ++ (wl W ++ nl w.params 0 g μ)) (CollF w W g μ pre) := by
  have hgl := G.len
  have hin : ∀ i, i < g.length → i ∈ (Tr.node .nil 0 T).idx := fun i hi => by
    simp only [Tr.idx, List.nil_append, List.mem_cons]
    by_cases h0 : i = 0
    · exact .inl h0
    · exact .inr ((G.all i).mpr (by omega))
  refine (collect_call (T := .node .nil 0 T) (o := o) (n0 := n0) S hd hh (by omega) (fun f => List.mem_append.mpr (.inr (List.mem_append.mpr (.inl (.tail _ (.tail _ (.tail _ hst))))))) ho lo (fun f => List.mem_append.mpr (.inl hR)) (gr_root G e0) (by simpa [Tr.idx] using G.nd0)
    (by rw [show (Tr.node .nil 0 T).size = T.size + 1 by simp [Tr.size], G.size]; omega) (fun j hj => gr_bears G j (isT_inj (gr_root G e0) j hj)) G.num).mono ?_
  rintro r nw ⟨D, Dh, es, n1, c, ch, vs, f, rfl, hv, hw, rfl, hnd⟩
  rw [pickN_none _ fun i hi => by simp [hin i hi]] at hv
  have e := intsAre_nil hv
  subst e
  have e2 : pick (fun i => decide (i ∈ (Tr.node .nil 0 T).idx)) (eRef g) g.length = refs g := by
    rw [pick_all (fun i hi => by simpa using hin i hi) g.length (Nat.le_refl _), ← refs_len g, List.take_length]
  rw [e2] at hw hnd ⊢
  exact ⟨D, Dh, es, n1, c, ch, f, rfl, hw, rfl, hnd⟩

/-! the world made -/
theorem nd_six {news : Led} (hd : ND news) {x d l s w t : Addr} {a b c e f g : Obj} (hx : ∀ p ∈ news, p.1 < x) (hdd : ∀ p ∈ news, p.1 < d) (hl : ∀ p ∈ news, p.1 < l) (hs : ∀ p ∈ news, p.1 < s) (hw : ∀ p ∈ news, p.1 < w) (ht : ∀ p ∈ news, p.1 < t)
    (n1 : d ≠ x) (n2 : s ≠ x) (n3 : s ≠ d) (n4 : w ≠ x) (n5 : w ≠ d) (n6 : w ≠ s) (n7 : t ≠ x) (n8 : t ≠ d) (n9 : t ≠ s) (n10 : t ≠ w) (n11 : l ≠ x) (n12 : l ≠ d) (n13 : l ≠ s) (n14 : l ≠ w) (n15 : l ≠ t) :
    ND (news ++ [(x, a), (d, b), (l, c), (s, e), (w, f), (t, g)]) := by
  have h1 : ND ((x, a) :: (d, b) :: (l, c) :: (s, e) :: (w, f) :: (t, g) :: news) := by
    refine nd_cons (nd_cons (nd_cons (nd_cons (nd_cons (nd_cons hd ?_) ?_) ?_) ?_) ?_) ?_ <;> intro q hq <;> (try simp only [List.mem_cons] at hq)
    · exact Nat.ne_of_lt (ht q hq)
    · rcases hq with rfl | hq
      · exact n10
      · exact Nat.ne_of_lt (hw q hq)
    · rcases hq with rfl | rfl | hq
      · exact n6
      · exact n9
      · exact Nat.ne_of_lt (hs q hq)
    · rcases hq with rfl | rfl | rfl | hq
      · exact n13.symm
      · exact n14.symm
      · exact n15.symm
      · exact Nat.ne_of_lt (hl q hq)
    · rcases hq with rfl | rfl | rfl | rfl | hq
      · exact n12
      · exact n3
      · exact n5
      · exact n8
      · exact Nat.ne_of_lt (hdd q hq)
    · rcases hq with rfl | rfl | rfl | rfl | rfl | hq
      · exact n1
      · exact n11
      · exact n2
      · exact n4
      · exact n7
      · exact Nat.ne_of_lt (hx q hq)
  refine nd_perm h1 ?_
  rw [List.perm_iff_count]; intro z; simp only [List.map_append, List.map_cons, List.map_nil, List.count_append, List.count_cons, List.count_nil]; omega
structure WNew (w : World) (W : Wo) (ost own otd : Obj) : Prop where
  wis : WIs W
  made : W.made = 0
  hs : W.hs = []
  rest : W.rest = [(W.st, ost), (W.wn, own), (W.td, otd)]
  dst : ost.IsDictOf (strKind PySem.Challenge.rw_sj0191_01.row.prog w) []
  lst : (W.st == sysModules) = false
  dwn : ∃ v, own.IsDictOf (strKind PySem.Challenge.rw_sj0191_01.row.prog w) [(Str.ofString "OUTPUT", v)]
  lwn : (W.wn == sysModules) = false
  dtd : otd.IsDictOf (strKind PySem.Challenge.rw_sj0191_01.row.prog w) []
  ltd : (W.td == sysModules) = false
theorem world_end {G : Prop} {w : World} {h₀ h : Heap} {L : Addr} {news : Led} {d1 l2 l3 d4 d5 d6 l7 l8 l9 d10 d11 d12 d13 d14 x d : Addr} {o1 o4 o5 o6 o10 o11 o12 o13 o14 a3 a7 a8 a9 : Obj} {c2 n mt : Nat} {es : List DictEntry} {kv : List (Str × Value)} {v : Value}
    (N : News h₀ L h ((d1, o1) :: (l2, listOf #[] c2) :: (l3, a3) :: (d4, o4) :: (d5, o5) :: (d6, o6) :: (l7, a7) :: (l8, a8) :: (l9, a9) :: (d10, o10) :: (d11, o11) :: (d12, o12) :: (d13, o13) :: (d14, o14) :: (x, instObj 280 d) :: (d, dictOf es n) :: news))
    (hd : ND news) (h14 : o14.IsDictOf (strKind PySem.Challenge.rw_sj0191_01.row.prog w) []) (lo14 : (d14 == sysModules) = false) (h5 : o5.IsDictOf (strKind PySem.Challenge.rw_sj0191_01.row.prog w) kv) (hkv : kv = [(Str.ofString "OUTPUT", v)]) (lo5 : (d5 == sysModules) = false)
    (h4 : o4.IsDictOf (strKind PySem.Challenge.rw_sj0191_01.row.prog w) []) (lo4 : (d4 == sysModules) = false)
    (made : getL "made" es = some (some (.int 0 mt))) (holders : getL "holders" es = some (some (.ref l2))) (store : getL "store" es = some (some (.ref d14))) (wn : getL "write_names" es = some (some (.ref d5))) (td : getL "traced" es = some (some (.ref d4))) (hlen : es.length ≤ 100)
    (hx : ∀ p ∈ news, p.1 < x) (hdd : ∀ p ∈ news, p.1 < d) (hl : ∀ p ∈ news, p.1 < l2) (hs : ∀ p ∈ news, p.1 < d14) (hw : ∀ p ∈ news, p.1 < d5) (ht : ∀ p ∈ news, p.1 < d4)
    (n1 : d ≠ x) (n2 : d14 ≠ x) (n3 : d14 ≠ d) (n4 : d5 ≠ x) (n5 : d5 ≠ d) (n6 : d5 ≠ d14) (n7 : d4 ≠ x) (n8 : d4 ≠ d) (n9 : d4 ≠ d14) (n10 : d4 ≠ d5) (n11 : l2 ≠ x) (n12 : l2 ≠ d) (n13 : l2 ≠ d14) (n14 : l2 ≠ d5) (n15 : l2 ≠ d4)
    (ret : ∀ (W : Wo) (ost own otd : Obj), W.x = x → WNew w W ost own otd → ND (news ++ wl W) → News h₀ L h (news ++ wl W) → G) : G := by
  subst hkv
  refine ret ⟨x, d, l2, es, n, c2, 0, mt, [], d14, d5, d4, [(d14, o14), (d5, o5), (d4, o4)]⟩ o14 o5 o4 rfl ⟨⟨made, holders, store, wn, td, hlen⟩, rfl, rfl, rfl, h14, lo14, ⟨v, h5⟩, lo5, h4, lo4⟩ (nd_six hd hx hdd hl hs hw ht n1 n2 n3 n4 n5 n6 n7 n8 n9 n10 n11 n12 n13 n14 n15) (news_sub N fun p hp => ?_)
  rcases List.mem_append.mp hp with hp | hp
  · iterate 16 refine .tail _ ?_
    exact hp
  · simp only [wl, List.mem_cons, List.not_mem_nil, or_false] at hp
    rcases hp with rfl | rfl | rfl | rfl | rfl | rfl <;> simp
/-- a dict of strs, told by what it holds -/
structure WF (es : List DictEntry) (kvs : List (Str × Value)) : Prop where
  nr : ∀ e ∈ es, e.refKey = false
  len : es.length ≤ kvs.length
  has : ∀ p ∈ kvs, getL p.1 es = some (some p.2)
theorem getL_put_any {k : Str} {hsh : Int} {t : Nat} {v : Value} : ∀ {es : List DictEntry}, getL k (putL k hsh (.str k t) v es) = some (some v) := by
  intro es
  refine getL_iff.mpr ?_
  induction es with
  | nil => exact ⟨⟨hsh, .str k t, v⟩, by unfold putL; rw [List.find?_cons]; simp [Value.isStr], rfl⟩
  | cons a r ih =>
    unfold putL
    cases ha : a.key.isStr k with
    | true => rw [if_pos rfl, List.find?_cons]; simp [ha]
    | false => rw [if_neg (by decide), List.find?_cons]; simp only [ha]; exact ih
theorem putL_nr {k : Str} {hsh : Int} {t : Nat} {v : Value} : ∀ {es : List DictEntry}, (∀ e ∈ es, e.refKey = false) → ∀ e ∈ putL k hsh (.str k t) v es, e.refKey = false
  | [], _, e, he => by
    rw [show putL k hsh (.str k t) v [] = [⟨hsh, .str k t, v⟩] from rfl] at he
    rw [List.mem_singleton.mp he]; rfl
  | a :: r, h, e, he => by
    unfold putL at he
    cases ha : a.key.isStr k with
    | true =>
      rw [ha, if_pos rfl] at he
      rcases List.mem_cons.mp he with rfl | he
      · exact h a (.head _)
      · exact h e (.tail _ he)
    | false =>
      rw [ha, if_neg (by decide)] at he
      rcases List.mem_cons.mp he with rfl | he
      · exact h _ (.head _)
      · exact putL_nr (fun e he => h e (.tail _ he)) e he
theorem WF.put {es : List DictEntry} {kvs : List (Str × Value)} (h : WF es kvs) {k : Str} {hsh : Int} {t : Nat} {v : Value} (hk : (kvs.map (·.1)).contains k = false) : WF (putL k hsh (.str k t) v es) ((k, v) :: kvs) := by
  refine ⟨putL_nr h.nr, ?_, fun p hp => ?_⟩
  · have := putL_len (k := k) (hsh := hsh) (kv := .str k t) (v := v) (es := es); have := h.len; simp only [List.length_cons]; omega
  · rcases List.mem_cons.mp hp with rfl | hp
    · exact getL_put_any
    · refine getL_put_ne (fun e => ?_) (h.has p hp)
      have h1 : (kvs.map (·.1)).contains k = true := List.contains_iff_mem.mpr (e ▸ List.mem_map_of_mem (f := (·.1)) hp)
      rw [hk] at h1; cases h1
theorem WF.some {es : List DictEntry} {kvs : List (Str × Value)} (h : WF es kvs) (k : Str) : (getL k es).isSome = true := by
  unfold getL
  split
  · rfl
  · rw [if_neg (fun ha => by
      obtain ⟨e, he, h1⟩ := List.any_eq_true.mp ha
      rw [h.nr e he] at h1; cases h1)]; rfl
theorem set_wf {prog : Program} {w : World} {A : Around} {E : Value → Shared → Prop} {s : Shared} {h₀ : Heap} {L : Addr} {m : Str → Option Value} {news : Led} {x d : Addr} {es : List DictEntry} {n : Nat} {kvs : List (Str × Value)} {name : Str} {v : Value} {g : Obj → Led} {Q : Unit → Shared → Prop} (F : Fr h₀ L s.heap m) (X : (Mine.hd.heap_39 w.params).In h₀) (N : News h₀ L s.heap news)
    (hi : (x, instObj 280 d) ∈ news) (U : UpdF d (dictOf es n) news g) (W : WF es kvs) (hk : (kvs.map (·.1)).contains name = false) (hl : kvs.length ≤ 100)
    (hs : findIn (Mine.hd.heap_39 w.params) (.ref 280) "__setattr__" = some (some (.builtin "object.__setattr__"))) (hp : plainOver (Mine.hd.heap_39 w.params) 280 = true) (ht : takerIn (Mine.hd.heap_39 w.params) 280 name = some none) (hh : hasDictIn (Mine.hd.heap_39 w.params) 280 = true)
    (h : ∀ h' es' n', Fr h₀ L h' m → News h₀ L h' (g (dictOf es' n')) → WF es' ((name, v) :: kvs) → Q () { s with heap := h', toks := s.toks + 2 }) :
    wpAny (model prog w) A (setAttr (.ref x) name v) Q E s := by
  obtain ⟨pre, post, rfl, hg, a, b⟩ := U.split
  refine set_dict F X N (InstAt.of_news N hi (List.mem_append.mpr (.inr (.head _)))) rfl hs hp ht hh (W.some name) rfl (upd_at a b) ?_ ?_
  · have := (W.put (k := name) (hsh := PyData.keyHash w.params name) (t := s.toks + 1) (v := v) hk).len
    simp only [List.length_cons] at this
    omega
  · exact fun h' F' N' => h h' _ _ F' (hg _ ▸ N') (W.put hk)
theorem world_call {w : World} {news : Led} (hd : ND news) :
    Call w 280 [] 8 news (fun r nw => ∃ (W : Wo) (ost own otd : Obj), r = .ref W.x ∧ WNew w W ost own otd ∧ ND nw ∧ nw = news ++ wl W) := by
  w_top off
  unfold Call
  k_fill
  intro mean mg mb dp un gd cn cs a ccd cl outer A₀ base h₀ L m s Q E B F X N T' hk hdp hu ret
  k_dflt (refine' call_cls ?k1 ?k2 ?k3 ?k4 ?k5 ?k6 ?_; (case k1 => k_asm); (case k2 => k_asm); (case k3 => k_asm); (case k4 => k_is); (case k5 => k_is); (case k6 => k_is); k_whole; intro x' d' h' F' N' l1 l2; (try k_lt l1); (try k_lt2 l2); (try k_sweep))
  k_dflt (refine' code_def ?k1 ?k2 ?k3 ?k4 ?k5 ?kA ?kF ?kK ?k6 ?k7 ?k8 ?k9 ?kB ?_ ?c2 ?c3 ?c4 ?c5; (case kA => exact rfl); (case kF => exact rfl); (case kK => assumption); (case k1 => k_asm); (case k2 => k_asm); (case k3 => k_asm); (case k4 => k_asm); (case k5 => k_asm); (case k6 => k_is); (case k7 => k_is); (case k8 => ktr_room); (case k9 => first | exact BindsTo.of_eq rfl | exact binds_K (by k_in) rfl (by k_is) rfl rfl rfl); (case c5 => decide); (case kB => exact locs rfl); (case c2 => exact rfl); (case c3 => exact rfl); (case c4 => exact rfl); k_whole; intro g' L' h' FG' F' N' B' X' T'; (try dsimp only); (try k_fold))
  obtain ⟨e0, m0, W0, N0⟩ : ∃ es n, WF es [] ∧ News g' L' h' ((x', instObj 280 d') :: (d', dictOf es n) :: news) := ⟨[], 0, ⟨fun _ h => (nomatch h), Nat.le_refl _, fun _ h => (nomatch h)⟩, N'⟩
  clear N'
  iterate 26 (k_steps; apply loop_go; refine set_wf (by k_asm) (by k_in) (by k_asm) (by k_mem) (by k_updF) (by assumption) (by rfl) (Nat.le_of_ble_eq_true rfl) (by k_is) (by k_is) (by k_is) (by k_is) ?_; k_whole; intro h9 e9 m9 F9 N9 W9; (try dsimp only at N9))
  k_steps
  refine' world_end ?N hd ?h14 ?lo14 ?h5 ?hkv ?lo5 ?h4 ?lo4 ?made ?holders ?store ?wn ?td ?hlen ?hx ?hdd ?hl ?hs ?hw ?ht ?n1 ?n2 ?n3 ?n4 ?n5 ?n6 ?n7 ?n8 ?n9 ?n10 ?n11 ?n12 ?n13 ?n14 ?n15 ?ret
  case N => k_asm
  case h14 => assumption
  case lo14 => assumption
  case h5 => assumption
  case hkv => exact rfl
  case lo5 => assumption
  case h4 => assumption
  case lo4 => assumption
  case made => exact W9.has (_, _) (by repeat (first | exact .head _ | refine .tail _ ?_))
  case holders => exact W9.has (_, _) (by repeat (first | exact .head _ | refine .tail _ ?_))
  case store => exact W9.has (_, _) (by repeat (first | exact .head _ | refine .tail _ ?_))
  case wn => exact W9.has (_, _) (by repeat (first | exact .head _ | refine .tail _ ?_))
  case td => exact W9.has (_, _) (by repeat (first | exact .head _ | refine .tail _ ?_))
  case hlen => exact Nat.le_trans W9.len (Nat.le_of_ble_eq_true rfl)
  case hx => exact fun p hp => Nat.lt_trans (l1 p hp) l2
  case hdd => exact l1
  case hl => ktr_rel
  case hs => ktr_rel
  case hw => ktr_rel
  case ht => ktr_rel
  case ret =>
    intro W ost own otd e1 e2 e3 e4
    exact ret _ _ _ _ ⟨W, ost, own, otd, e1 ▸ rfl, e2, e3, rfl⟩ (by k_asm) e4
  all_goals k_ne

/-! the variable -/
theorem updF_at {d : Addr} {o : Obj} : ∀ {pre post : Led}, (∀ p ∈ pre, p.1 ≠ d) → (∀ p ∈ post, p.1 ≠ d) → UpdF d o (pre ++ (d, o) :: post) (fun o' => pre ++ (d, o') :: post)
  | [], _, _, h => .head h
  | _ :: _, _, a, h => .tail (a _ (.head _)) (updF_at (fun p hp => a p (.tail _ hp)) h)
noncomputable def Wo.putRest (W : Wo) (r : Led) : Wo := { W with rest := r }
theorem WIs.putRest {W : Wo} (h : WIs W) {r : Led} : WIs (W.putRest r) := ⟨h.made, h.holders, h.store, h.wnames, h.traced, h.len⟩
theorem updF_rest {W : Wo} {pre R rest : Led} {d : Addr} {o : Obj} (hr : W.rest = (d, o) :: rest) (h : ND (pre ++ (wl W ++ R))) : UpdF d o (pre ++ (wl W ++ R)) (fun o' => pre ++ (wl (W.putRest ((d, o') :: rest)) ++ R)) := by
  have h1 : ND ((pre ++ [(W.x, instObj 280 W.d), (W.d, dictOf W.es W.n), (W.hl, listOf W.hs.toArray W.hn)]) ++ (d, o) :: (rest ++ R)) := by simpa [wl, hr] using h
  have := updF_at (o := o) h1.cut.1 h1.cut.2
  simpa [wl, hr, Wo.putRest] using this
theorem setvar_call {w : World} {W : Wo} {pre R rest : Led} {ost own otd : Obj} {t : Nat} {v : Addr} {ov : Value} (S : WIs W) (hd : ND (pre ++ (wl W ++ R))) (hr : W.rest = (W.st, ost) :: rest) (hwn : (W.wn, own) ∈ rest) (htd : (W.td, otd) ∈ rest)
    (dst : ost.IsDictOf (strKind PySem.Challenge.rw_sj0191_01.row.prog w) []) (dwn : own.IsDictOf (strKind PySem.Challenge.rw_sj0191_01.row.prog w) [(Str.ofString "OUTPUT", ov)]) (dtd : otd.IsDictOf (strKind PySem.Challenge.rw_sj0191_01.row.prog w) [])
    (lwn : (W.wn == sysModules) = false) (ltd : (W.td == sysModules) = false) :
    Call w 298 [.ref W.x, .str (Str.ofString "TREE") t, .ref v] 8 (pre ++ (wl W ++ R)) (fun r nw => ∃ o', o'.IsDictOf (strKind PySem.Challenge.rw_sj0191_01.row.prog w) [(Str.ofString "TREE", .ref v)] ∧ nw = pre ++ (wl (W.putRest ((W.st, o') :: rest)) ++ R)) := by
  w_top off
  unfold Call
  k_fill
  intro mean mg mb dp un gd cn cs a ccd cl outer A₀ base h₀ L m s Q E B F X N T' hk hdp hu ret
  have hi := W_mem_x (W := W) (pre := pre) (R := R)
  have hdd := W_mem_d (W := W) (pre := pre) (R := R)
  refine wpAny_call ?_
  k_dflt ktr_enter
  k_steps
  refine kda_set (knd := strKind PySem.Challenge.rw_sj0191_01.row.prog w) (k := Str.ofString "TREE") (by k_asm) (by k_asm) (updF_rest hr hd) dst (strKind_is _ _ _ _) (Nat.zero_le _) ?_
  intro h7 o7 F7 N7 hs7
  have hi2 := W_mem_x (W := W.putRest ((W.st, o7) :: rest)) (pre := pre) (R := R)
  have hdd2 := W_mem_d (W := W.putRest ((W.st, o7) :: rest)) (pre := pre) (R := R)
  have hm : ∀ p ∈ rest, p ∈ pre ++ (wl (W.putRest ((W.st, o7) :: rest)) ++ R) := fun p hp => List.mem_append.mpr (.inr (List.mem_append.mpr (.inl (.tail _ (.tail _ (.tail _ (.tail _ hp)))))))
  have S2 : WIs (W.putRest ((W.st, o7) :: rest)) := S.putRest
  k_steps
  refine kda_in (knd := strKind PySem.Challenge.rw_sj0191_01.row.prog w) (k := Str.ofString "TREE") (by k_asm) (hm _ hwn) dwn lwn (strKind_is _ _ _ _) false (by unfold PySem.valueAt; rw [List.find?_cons_of_neg (by show ¬ (decide (Str.ofString "OUTPUT" = Str.ofString "TREE")) = true; decide)]; rfl) ?_
  k_steps
  refine kda_in (knd := strKind PySem.Challenge.rw_sj0191_01.row.prog w) (k := Str.ofString "TREE") (by k_asm) (hm _ htd) dtd ltd (strKind_is _ _ _ _) false (by rfl) ?_
  k_steps
  exact ret _ _ _ _ ⟨o7, hs7, rfl⟩ (by k_asm) (by k_asm)

/-! the law's own text, named, and what a stretch of it must do -/
noncomputable def lawFn : Stmt := match PySem.Challenge.pw_sj0191_01.main.body.drop 42 with
  | s :: _ => s
  | [] => .Pass ⟨0, 0, 0, 0⟩
noncomputable def lawBody : List Stmt := match lawFn with
  | .FunctionDef _ _ b _ _ _ _ _ _ _ => b
  | _ => []
noncomputable def lawScope : Scope := match lawFn with
  | .FunctionDef _ _ _ _ _ _ sc _ _ _ => sc
  | _ => PySem.Challenge.pw_sj0191_01.main.scope
noncomputable abbrev lawA (dp un : Nat) (gd : Option (List Code)) (L fa : Addr) (ccd : Value) (outer : List Env) : Around := ktrTop dp un gd "law" lawScope L fa ccd [("things", L + 1 + 1 + 1), ("keys", L + 1 + 1), ("cells", L + 1)] outer
noncomputable abbrev lawE (L fa : Addr) (ccd : Value) : Env := envX "law" lawScope L fa ccd [("things", L + 1 + 1 + 1), ("keys", L + 1 + 1), ("cells", L + 1)]
noncomputable def Law (w : World) (h₀ : Heap) (L : Addr) (j : Nat) (m : Str → Option Value) (news : Led) : Prop :=
  ∀ (mean : ExcName → Option Value) (mg mb : Str → Option Value) (dp un : Nat) (gd : Option (List Code)) (fa : Addr) (ccd : Value) (outer : List Env) (A₀ : Around) (base : Heap) (s : Shared) (Q : Flow → Shared → Prop) (E : Value → Shared → Prop),
    Below A₀ base outer h₀ → Fr h₀ L s.heap m → (Mine.hd.heap_39 w.params).In h₀ → News h₀ L s.heap news → Top q (looseW q names) mean mg mb h₀ → dp + 100 < recursionLimit → un + 1000 < cLine →
    (∀ h tk m', Fr h₀ L h m' → Q (.ret (.bool true)) { s with heap := h, toks := tk }) →
    wpAny (model PySem.Challenge.rw_sj0191_01.row.prog w) (lawA dp un gd L fa ccd outer) (execs (lawBody.drop j) (lawE L fa ccd)) Q E s
/-- the same of the whole; the tree stands apart, so that no look at the type runs it -/
noncomputable def LawTop (w : World) (h₀ : Heap) (L : Addr) (m : Str → Option Value) (news : Led) : Prop :=
  ∀ (mean : ExcName → Option Value) (mg mb : Str → Option Value) (dp un : Nat) (gd : Option (List Code)) (fa : Addr) (ccd : Value) (outer : List Env) (A₀ : Around) (base : Heap) (s : Shared) (Q : Flow → Shared → Prop) (E : Value → Shared → Prop),
    Below A₀ base outer h₀ → Fr h₀ L s.heap m → (Mine.hd.heap_39 w.params).In h₀ → News h₀ L s.heap news → Top q (looseW q names) mean mg mb h₀ → dp + 100 < recursionLimit → un + 1000 < cLine →
    (∀ h tk m', Fr h₀ L h m' → Q (.ret (.bool true)) { s with heap := h, toks := tk }) →
    ∀ t, t = execs lawBody (lawE L fa ccd) → wpAny (model PySem.Challenge.rw_sj0191_01.row.prog w) (lawA dp un gd L fa ccd outer) t Q E s
theorem ints_at {vs : List Value} {ns : List Int} (h : IntsAre vs ns) : ∀ {i : Nat} {v : Value}, vs[i]? = some v → ∃ k t, ns[i]? = some k ∧ v = .int k t := by
  induction h with
  | nil => intro i v h; simp at h
  | cons k t _ ih =>
    intro i v h
    cases i with
    | zero => exact ⟨k, t, rfl, (Option.some.inj h).symm⟩
    | succ i => obtain ⟨k', t', e⟩ := ih (i := i) (v := v) (by simpa using h); exact ⟨k', t', by simpa using e⟩
theorem ints_of : ∀ {ys : List Value}, (∀ (i : Nat) (y : Value), ys[i]? = some y → ∃ k t, (0 : Int) ≤ k ∧ y = Value.int k t) → ∃ ks : List Int, IntsAre ys ks ∧ ∀ c ∈ ks, 0 ≤ c
  | [], _ => ⟨[], .nil, fun _ h => nomatch h⟩
  | y :: r, h => by
    obtain ⟨k, t, h0, rfl⟩ := h 0 y rfl
    obtain ⟨ks, h1, h2⟩ := ints_of (ys := r) fun i y e => h (i + 1) y (by simpa using e)
    exact ⟨k :: ks, .cons _ _ h1, fun c hc => (List.mem_cons.mp hc).elim (fun e => e ▸ h0) (h2 c)⟩
theorem intsAre_drop {vs : List Value} {ns : List Int} (h : IntsAre vs ns) : ∀ {k : Nat}, IntsAre (vs.drop k) (ns.drop k) := by
  induction h with
  | nil => intro k; simp; exact .nil
  | cons i t h ih =>
    intro k
    cases k with
    | zero => exact .cons i t h
    | succ k => exact ih
theorem twelve {ys ws : List Value} {n : Nat} (hn : n ≤ 12) (hl : ys.length = n) (hys : ∀ (i : Nat) (y : Value), ys[i]? = some y → ∃ k t, (0 : Int) ≤ k ∧ y = Value.int k t) (hw : IntsAre ws (List.drop n [4, 12, 6, 14, 3, 20, 0, 3, 0, 22, 2, 4])) :
    ∃ cs : List Int, IntsAre (ys ++ ws) cs ∧ cs.length = 12 ∧ ∀ c ∈ cs, 0 ≤ c := by
  obtain ⟨ks, h1, h2⟩ := ints_of hys
  refine ⟨_, intsAre_app h1 hw, ?_, fun c hc => ?_⟩
  · rw [List.length_append, ← h1.length, hl, List.length_drop]; simp; omega
  · rcases List.mem_append.mp hc with hc | hc
    · exact h2 c hc
    · have := List.mem_of_mem_drop hc
      simp only [List.mem_cons, List.not_mem_nil, or_false] at this
      omega
theorem twelve_news {h₀ h : Heap} {L D : Addr} {rest : Led} {ys : List Value} {n t1 t2 t3 t4 t5 t6 t7 t8 t9 t10 t11 t12 c : Nat} (N : News h₀ L h ((D, listOf (ys ++ List.drop n [Value.int 4 t1, Value.int 12 t2, Value.int 6 t3, Value.int 14 t4, Value.int 3 t5, Value.int 20 t6, Value.int 0 t7, Value.int 3 t8, Value.int 0 t9, Value.int 22 t10, Value.int 2 t11, Value.int 4 t12]).toArray c) :: rest))
    (hn : n ≤ 12) (hl : ys.length = n) (hys : ∀ (i : Nat) (y : Value), ys[i]? = some y → ∃ k t, (0 : Int) ≤ k ∧ y = Value.int k t) : ∃ (vs : List Value) (cs : List Int), News h₀ L h ((D, listOf vs.toArray c) :: rest) ∧ IntsAre vs cs ∧ cs.length = 12 ∧ ∀ c ∈ cs, 0 ≤ c := by
  obtain ⟨cs, h1, h2, h3⟩ := twelve hn hl hys (intsAre_drop (.cons 4 t1 (.cons 12 t2 (.cons 6 t3 (.cons 14 t4 (.cons 3 t5 (.cons 20 t6 (.cons 0 t7 (.cons 3 t8 (.cons 0 t9 (.cons 22 t10 (.cons 2 t11 (.cons 4 t12 .nil)))))))))))))
  exact ⟨_, cs, N, h1, h2, h3⟩

/-! the cells -/
theorem law_cells {w : World} {h₀ : Heap} {L l : Addr} {o1 o2 o3 : Obj} {lits : List Value} {ns : List Int} {m₀ : Str → Option Value} (hsc : m₀ (Str.ofString "script") = some (.ref l)) (d1 : o1.data = .cell none) (hL : h₀.IsList l lits.toArray) (hI : IntsAre lits ns) (hn : ns.length ≤ 63)
    (k : ∀ (Dc : Addr) (vs : List Value) (cs : List Int) (o1' : Obj) (m : Str → Option Value), IntsAre vs cs → cs.length = 12 → (∀ c ∈ cs, 0 ≤ c) → o1'.data = .cell (some (.ref Dc)) → (L + 1 + 1 + 1 < Dc ∧ L + 1 + 1 < Dc ∧ L + 1 < Dc) →
      Law w h₀ L 2 m [(Dc, listOf vs.toArray 0), (L + 1 + 1 + 1, o3), (L + 1 + 1, o2), (L + 1, o1')]) :
    LawTop w h₀ L m₀ [(L + 1 + 1 + 1, o3), (L + 1 + 1, o2), (L + 1, o1)] := by
  w_top off
  unfold LawTop
  k_fill
  intro mean mg mb dp un gd fa ccd outer A₀ base s Q E B F X N T' hd hu ret t ht
  subst ht
  show wpAny _ (ktrTop _ _ _ _ ⟨_, _, _, _, _⟩ _ _ _ _ _) (execs (_ :: _) (envX _ ⟨_, _, _, _, _⟩ _ _ _ _)) _ _ _
  dsimp only
  k_steps
  apply loop_go
  k_dflt (refine LCg.ListComp_U (F₀ := by k_asm) (by with_unfolding_all rfl) (by decide) (by rfl) (by decide) (by rfl) ?_)
  refine wpAny_mono (Q := SrcEnd _) ?_ (fun _ _ h => h) (fun _ _ h => h)
  k_steps
  all_goals (try k_data)
  rename_i lu hu1 l1u hu2 Ds ws hs1 Fs Ns hIs hCs hLs l1s
  have hwl : ws.length ≤ 12 := by rw [hIs.length, hCs]; omega
  refine src_pure (fun _ y => ∃ k t, 0 ≤ k ∧ y = .int k t) rfl (by k_asm) (by k_asm) (.head _) (by rw [sizeLine_eq]; omega) ?hel ?fin
  case hel =>
    intro gh i v hv C oC m₂ h tk led E' hoC hx2 F' N' hC hsub
    obtain ⟨k, t, -, rfl⟩ := ints_at hIs hv
    refine wpAny_mono (Q := EltEnd _ _ _ _ led (fun y => ∃ k t, 0 ≤ k ∧ y = .int k t)) ?_ (fun _ _ h => h) (fun _ _ h => h)
    k_steps
    all_goals (try k_data)
    exact EltEnd.intro ⟨_, _, by split <;> omega, rfl⟩ (by k_asm) (by k_asm)
  case fin =>
    intro gh ys hl hys D3 h3 tk3 F3 N3 o3'
    iterate 23 (first | k_data | walk1)
    all_goals (try k_data)
    k_dflt (refine slice_from (xs := [Value.int 4 _, Value.int 12 _, Value.int 6 _, Value.int 14 _, Value.int 3 _, Value.int 20 _, Value.int 0 _, Value.int 3 _, Value.int 0 _, Value.int 22 _, Value.int 2 _, Value.int 4 _]) (by k_asm) (by k_asm) (by k_mem) (by omega) (by rw [sizeLine_eq]; simp) ?_)
    k_whole
    intro D4 h4 F4 N4 l4
    k_lt l4
    rw [Int.toNat_natCast] at N4
    refine add_ll (by k_asm) (by k_asm) (by k_mem) (by k_mem) (by rw [sizeLine_eq, List.length_drop]; simp only [List.length_cons, List.length_nil]; omega) ?_
    k_whole
    intro D5 h5 F5 N5 l5
    k_lt l5
    obtain ⟨vs, cs, N5, hcs, h12, hpos⟩ := twelve_news N5 (by rw [hCs]; omega) (by rw [hl, hIs.length]) hys
    have N6 := news_sub (l' := [(D5, listOf vs.toArray 0), (L + 1 + 1 + 1, o3), (L + 1 + 1, o2), (L + 1, o1)]) N5 (sub_both (.head _) fun p hp => .tail _ (.tail _ (.tail _ (.tail _ (.tail _ (.tail _ hp))))))
    clear N5
    have l6 : L + 1 + 1 + 1 < D5 ∧ L + 1 + 1 < D5 ∧ L + 1 < D5 := l5.2.2.2.2.2
    iterate 2 walk1
    refine k _ _ _ _ _ hcs h12 hpos (by assumption) l6 _ _ _ _ _ _ _ _ _ _ _ _ _ _ B (by k_asm) X (by k_asm) T' hd hu ?_
    exact fun h tk m' F => ret h tk m' F

/-! the world, the first thing, the variable, the keys, the things -/
theorem nd_four {L Dc : Addr} {a b c d : Obj} (lc : L + 1 + 1 + 1 < Dc ∧ L + 1 + 1 < Dc ∧ L + 1 < Dc) : ND [(Dc, a), (L + 1 + 1 + 1, b), (L + 1 + 1, c), (L + 1, d)] := by
  unfold ND
  unfold Addr at *
  simp only [List.map_cons, List.map_nil, List.nodup_cons, List.mem_cons, List.not_mem_nil, or_false, not_or, not_false_eq_true, List.nodup_nil, and_true]
  omega
noncomputable def mu0 : Nat → Mu := fun _ => ⟨.none, .none, .none, .none⟩
theorem gr_one {n : Nd} {μ : Nat → Mu} {m : Int} {u : Mu} {te : Nat} (hn : n.num = m + 1) (hm : m = 0) (hu : u.vals = pad [] (.str "" te)) : ∀ kf, Gr [n] (setMu μ 0 u) .nil kf 0 := by
  intro kf
  have h1 : u.l = .str "" te ∧ u.k = .str "" te ∧ u.r = .str "" te := by
    unfold pad at hu
    simpa [Mu.vals] using hu
  refine ⟨rfl, fun j d h => ?_, fun j h1 h2 => absurd h1 (by omega), ?_, fun j => by simp [Tr.idx]; omega, by simp [Tr.idx], by simp [Tr.idx], ?_, ?_⟩
  · cases j with
    | zero => obtain rfl := Option.some.inj h; rw [hn, hm]; rfl
    | succ j => simp at h
  · rw [setMu_same, h1.2.2]; exact .nil
  · rw [setMu_same, h1.1]; exact ⟨_, rfl⟩
  · rw [setMu_same, h1.2.1]; exact ⟨_, rfl⟩
structure Start (w : World) (W : Wo) (n0 : Nd) (μ : Nat → Mu) (o : Obj) : Prop where
  wis : WIs W
  made : W.made = 1
  hs : W.hs = refs [n0]
  st : (W.st, o) ∈ W.rest
  dst : o.IsDictOf (strKind PySem.Challenge.rw_sj0191_01.row.prog w) [(Str.ofString "TREE", .ref n0.x)]
  lst : (W.st == sysModules) = false
  gr : ∀ kf, Gr [n0] μ .nil kf 0
theorem law_world {w : World} {h₀ : Heap} {L Dc : Addr} {vs : List Value} {o1 o2 o3 : Obj} {m : Str → Option Value} 
    (lc : L + 1 + 1 + 1 < Dc ∧ L + 1 + 1 < Dc ∧ L + 1 < Dc)
    (k : ∀ (W : Wo) (n0 : Nd) (μ : Nat → Mu) (o : Obj) (m : Str → Option Value), Start w W n0 μ o → ND ([(Dc, listOf vs.toArray 0), (L + 1 + 1 + 1, o3), (L + 1 + 1, o2), (L + 1, o1)] ++ (wl W ++ nl w.params 0 [n0] μ)) → m (Str.ofString "world") = some (.ref W.x) → m (Str.ofString "first") = some (.ref n0.x) →
      Law w h₀ L 5 m ([(Dc, listOf vs.toArray 0), (L + 1 + 1 + 1, o3), (L + 1 + 1, o2), (L + 1, o1)] ++ (wl W ++ nl w.params 0 [n0] μ))) :
    Law w h₀ L 2 m [(Dc, listOf vs.toArray 0), (L + 1 + 1 + 1, o3), (L + 1 + 1, o2), (L + 1, o1)] := by
  w_top off
  unfold Law
  k_fill
  intro mean mg mb dp un gd fa ccd outer A₀ base s Q E B F X N T' hd hu ret
  show wpAny _ (ktrTop _ _ _ _ ⟨_, _, _, _, _⟩ _ _ _ _ _) (execs (_ :: _) (envX _ ⟨_, _, _, _, _⟩ _ _ _ _)) _ _ _
  dsimp only
  k_steps
  apply loop_go
  refine call_use2 (C := world_call (nd_four lc)) (ret := ?_)
  k_whole
  rintro r5 n5 h5 tk5 ⟨W, ost, own, otd, rfl, HW, hnd5, rfl⟩ F5 N5
  k_steps
  apply loop_go
  rename_i hx2 fx hx1 l1f vx hx0 F6 N6 l1v
  have hnd6 : ND ((fx, listOf (fsOf (tk5 + 1 + 1) (tk5 + 1 + 1 + 1) (tk5 + 1 + 1 + 1 + 1)).toArray 0) :: (vx, listOf ([] : List Value).toArray 0) :: ([(Dc, listOf vs.toArray 0), (L + 1 + 1 + 1, o3), (L + 1 + 1, o2), (L + 1, o1)] ++ (wl W ++ nl w.params 0 [] mu0))) := by
    show ND (_ :: _ :: (_ ++ (wl W ++ [])))
    rw [List.append_nil]
    exact nd_swap (nd_cons (nd_cons hnd5 fun q hq => Nat.ne_of_lt (l1f q hq)) fun q hq => (List.mem_cons.mp hq).elim (fun e => e ▸ Nat.ne_of_lt l1v.1) fun hq => Nat.ne_of_lt (ktn_ltOf l1v.2 q hq))
  refine call_use2 (N := news_sub N6 ?_) (C := made_call (W := W) (g := []) (μ := mu0) (pre := [(Dc, listOf vs.toArray 0), (L + 1 + 1 + 1, o3), (L + 1 + 1, o2), (L + 1, o1)]) HW.wis hnd6 (by rw [HW.hs]; exact Nat.zero_le _) (Nat.zero_le _)) (ret := ?_)
  · show ∀ p ∈ _ :: _ :: (_ ++ (wl W ++ [])), _
    rw [List.append_nil]
    exact fun p hp => by
      rcases List.mem_cons.mp hp with rfl | hp
      · exact .tail _ (.head _)
      · rcases List.mem_cons.mp hp with rfl | hp
        · exact .head _
        · exact .tail _ (.tail _ hp)
  k_whole
  rintro r7 n7 h7 tk7 ⟨n0, es, dn, t, te, mk, u, rfl, hn0, hfx, hmk, hu0, hw7, rfl, hnd7⟩ F7 N7
  have G0 := gr_one (μ := mu0) hn0 HW.made hu0
  rw [List.nil_append] at N7 hnd7
  k_steps
  apply loop_go
  obtain ⟨ov, hov⟩ := HW.dwn
  refine call_use2 (C := setvar_call (W := (W.putMade es dn (W.made + 1) t).putHs (W.hs ++ [Value.ref n0.x]) (W.hn + 1)) (v := n0.x) hw7 hnd7 HW.rest (.head _) (.tail _ (.head _)) HW.dst hov HW.dtd HW.lwn HW.ltd) (ret := ?_)
  k_whole
  rintro r8 n8 h8 tk8 ⟨o8, hd8, rfl⟩ F8 N8
  have S8 : Start w (((W.putMade es dn (W.made + 1) t).putHs (W.hs ++ [Value.ref n0.x]) (W.hn + 1)).putRest [(W.st, o8), (W.wn, own), (W.td, otd)]) n0 (setMu mu0 0 u) o8 :=
    ⟨hw7.putRest, by show W.made + 1 = 1; rw [HW.made]; rfl, by show W.hs ++ _ = _; rw [HW.hs]; rfl, .head _, hd8, HW.lst, G0⟩
  refine k _ _ _ _ _ S8 ?_ ?_ ?_ _ _ _ _ _ _ _ _ _ _ _ _ _ _ B (by k_asm) X (by k_asm) T' hd hu ?_
  · exact hnd7.same (by simp [HW.rest, Wo.putRest, Wo.putHs, Wo.putMade])
  · exact rfl
  · exact rfl
  · exact fun h tk m' F => ret h tk m' F

open LCg in
theorem src_rangeB {prog : Program} {w : World} {A : Around} {s : Shared} {h₀ : Heap} {L : Addr} {m : Str → Option Value} {env : Env} {elt : PySem.Expr} {x : Str} {scope : Scope} {cl : List (Str × Addr)} {Fin : Shared → List Value → Led → Prop} {news : Led} {r : Addr} {a b : Int} {t u v : Tok} {n : Nat} (G : Nat → Value → Prop) (hh : A.handled = none) (F : Fr h₀ L s.heap m) (N : News h₀ L s.heap news) (hr : IsRange s.heap r a b 1 t u v)
    (hsm : Builtin.Range.small a b 1 = true) (hn : Builtin.Range.rangeSize a b 1 = ((n : Nat) : Int)) (hz : n ≤ sizeLine)
    (hel : ∀ g i v, i < n → (∃ t, v = .int (a + (i : Int)) t) → EltP prog w A h₀ L m env elt x scope cl { s with heap := g } news v (G i))
    (fin : ∀ g ys, ys.length = n → (∀ i y, ys[i]? = some y → G i y) → Fin { s with heap := g } ys news) : CompSrc prog w A h₀ L m env elt x scope cl Fin (.ref r) s :=
  CompSrc.range hh F N hr hsm hn hz fun g => by
    have key : ∀ k i (ys : List Value), i + k = n → ys.length = i → (∀ i y, ys[i]? = some y → G i y) → CompRest prog w A h₀ L m env elt x scope cl { s with heap := g } (fun _ => True) (fun i v => ∃ t, v = .int (a + (i : Int)) t) (Fin { s with heap := g }) k i ys news := by
      intro k
      induction k with
      | zero => exact fun i ys e1 e2 e3 => fin g ys (by omega) e3
      | succ k ih =>
        intro i ys e1 e2 e3 v I oI C oC D m₂ h tk E' hP hoC hx F N off _
        refine wpAny_mono (hel g i v (by omega) hP C oC m₂ h tk _ E' hoC hx F N (.tail _ (.head _)) fun p hp => .tail _ (.tail _ (.tail _ hp))) ?_ fun _ _ q => q
        rintro r s' ⟨hG, h', tk', rfl, F', N'⟩
        refine ⟨h', tk', news, rfl, F', N', off, trivial, ih (i + 1) (ys ++ [r]) (by omega) (by simp [e2]) fun j y hj => ?_⟩
        by_cases hlt : j < ys.length
        · rw [List.getElem?_append_left hlt] at hj; exact e3 j y hj
        · rw [List.getElem?_append_right (by omega)] at hj
          have : j = ys.length := by
            have := (List.getElem?_eq_some_iff.mp hj).1
            simp at this; omega
          subst this
          simp at hj
          subst hj
          exact e2 ▸ hG
    exact key n 0 [] (Nat.zero_add _) rfl fun _ _ e => by simp at e
noncomputable def keyOf (cs : List Int) (i : Nat) : Int := (cs.getD (1 + i) 0).fmod 16 * 8 + (i : Int)
noncomputable def keysN (cs : List Int) : Nat := (1 + (cs.getD 0 0).fmod 5).toNat
noncomputable def keysOf (cs : List Int) : List Int := (List.range (keysN cs)).map (keyOf cs)
theorem keysN_eq {cs : List Int} (h12 : cs.length = 12) (hpos : ∀ c ∈ cs, 0 ≤ c) : ((keysN cs : Nat) : Int) = 1 + (cs.getD 0 0).fmod 5 ∧ 1 ≤ keysN cs ∧ keysN cs ≤ 5 := by
  have hm5 : 0 ≤ (cs.getD 0 0).fmod 5 ∧ (cs.getD 0 0).fmod 5 < 5 := by rw [Int.fmod_eq_emod_of_nonneg _ (by decide)]; omega
  unfold keysN
  omega
theorem keyOf_mod {cs : List Int} {i : Nat} (h : i < 5) : (keyOf cs i).emod 8 = i := by
  unfold keyOf
  show (_ * 8 + (i : Int)) % 8 = i
  omega
theorem keysOf_len {cs : List Int} : (keysOf cs).length = keysN cs := by unfold keysOf; rw [List.length_map, List.length_range]
theorem keysOf_at {cs : List Int} {i : Nat} (h : i < keysN cs) : (keysOf cs)[i]? = some (keyOf cs i) := by
  unfold keysOf
  rw [List.getElem?_map, List.getElem?_eq_getElem (by rw [List.length_range]; exact h), List.getElem_range]; rfl
theorem keysOf_nd {cs : List Int} (h5 : keysN cs ≤ 5) : (keysOf cs).Nodup := by
  unfold keysOf
  refine List.pairwise_map.mpr ?_
  refine (List.nodup_range (n := keysN cs)).imp_of_mem fun {a b} ha hb hne e => hne ?_
  have e1 := keyOf_mod (cs := cs) (i := a) (by have := List.mem_range.mp ha; omega)
  have e2 := keyOf_mod (cs := cs) (i := b) (by have := List.mem_range.mp hb; omega)
  rw [e] at e1
  omega
theorem key_eq (cs : List Int) (i : Nat) : (cs.getD (Int.toNat (1 + (0 + (i : Int)))) 0).fmod 16 * 8 + (0 + (i : Int)) = keyOf cs i := by
  unfold keyOf
  rw [show Int.toNat (1 + (0 + (i : Int))) = 1 + i by omega, Int.zero_add]
/-- where the law keeps its lists -/
structure Pl where
  Dc : Addr
  Kx : Addr
  Dt : Addr
  oc : Obj
  ok : Obj
  ot : Obj
  vs : List Value
  kvs : List Value
  kc : Nat
  tc : Nat
  cs : List Int
  ks : List Int
structure Fix (L : Addr) (pre : Led) (P : Pl) (n0 : Nd) (g : List Nd) : Prop where
  hcs : IntsAre P.vs P.cs
  h12 : P.cs.length = 12
  hpos : ∀ c ∈ P.cs, 0 ≤ c
  hks : IntsAre P.kvs P.ks
  k1 : 1 ≤ P.ks.length
  k5 : P.ks.length ≤ 5
  knd : P.ks.Nodup
  e0 : g[0]? = some n0
  cC : (L + 1, P.oc) ∈ pre
  dC : P.oc.data = .cell (some (.ref P.Dc))
  lC : (P.Dc, listOf P.vs.toArray 0) ∈ pre
  cK : (L + 1 + 1, P.ok) ∈ pre
  dK : P.ok.data = .cell (some (.ref P.Kx))
  lK : (P.Kx, listOf P.kvs.toArray P.kc) ∈ pre
  cT : (L + 1 + 1 + 1, P.ot) ∈ pre
  dT : P.ot.data = .cell (some (.ref P.Dt))
  lT : (P.Dt, listOf (refs g).toArray P.tc) ∈ pre
structure St (w : World) (pre : Led) (P : Pl) (n0 : Nd) (g : List Nd) (X : Addr) (W : Wo) (μ : Nat → Mu) (T : Tr) : Prop where
  gr : Gr g μ T (kOf P.ks) P.ks.length
  wis : WIs W
  hs : W.hs = refs g
  x : W.x = X
  st : ∃ o, (W.st, o) ∈ W.rest ∧ o.IsDictOf (strKind PySem.Challenge.rw_sj0191_01.row.prog w) [(Str.ofString "TREE", .ref n0.x)]
  lst : (W.st == sysModules) = false
  nd : ND (pre ++ (wl W ++ nl w.params 0 g μ))

theorem law_keys {w : World} {h₀ : Heap} {L Dc : Addr} {vs : List Value} {cs : List Int} {o1 o2 o3 : Obj} {m : Str → Option Value} {W : Wo} {n0 : Nd} {μ : Nat → Mu} {o : Obj} (hcs : IntsAre vs cs) (h12 : cs.length = 12) (hpos : ∀ c ∈ cs, 0 ≤ c) (d1 : o1.data = .cell (some (.ref Dc))) (d2 : o2.data = .cell none) (d3 : o3.data = .cell none)
    (S : Start w W n0 μ o) (hnd : ND ([(Dc, listOf vs.toArray 0), (L + 1 + 1 + 1, o3), (L + 1 + 1, o2), (L + 1, o1)] ++ (wl W ++ nl w.params 0 [n0] μ))) (hw : m (Str.ofString "world") = some (.ref W.x)) (hf : m (Str.ofString "first") = some (.ref n0.x))
    (k : ∀ (pre : Led) (P : Pl) (n0 : Nd) (g : List Nd) (X : Addr) (W : Wo) (μ : Nat → Mu) (T : Tr) (m : Str → Option Value), Fix L pre P n0 g → St w pre P n0 g X W μ T → m (Str.ofString "world") = some (.ref X) → m (Str.ofString "first") = some (.ref n0.x) →
      Law w h₀ L 7 m (pre ++ (wl W ++ nl w.params 0 g μ))) :
    Law w h₀ L 5 m ([(Dc, listOf vs.toArray 0), (L + 1 + 1 + 1, o3), (L + 1 + 1, o2), (L + 1, o1)] ++ (wl W ++ nl w.params 0 [n0] μ)) := by
  w_top off
  unfold Law
  k_fill
  intro mean mg mb dp un gd fa ccd outer A₀ base s Q E B F X N T' hd hu ret
  show wpAny _ (ktrTop _ _ _ _ ⟨_, _, _, _, _⟩ _ _ _ _ _) (execs (_ :: _) (envX _ ⟨_, _, _, _, _⟩ _ _ _ _)) _ _ _
  dsimp only
  k_steps
  apply loop_go
  with_unfolding_all refine wpAny_Assign_Name ?_
  k_dflt (refine LCg.ListComp_U (F₀ := by k_asm) (by with_unfolding_all rfl) (by decide) (by rfl) (by decide) (by rfl) ?_)
  refine wpAny_mono (Q := SrcEnd _) ?_ (fun _ _ h => h) (fun _ _ h => h)
  k_steps
  rename_i hu1 tk1 ta tb tc hr1 F1 N1 hk1
  obtain ⟨hN, hN1, hN5⟩ := keysN_eq h12 hpos
  have hm5 : 0 ≤ (cs.getD (Int.toNat 0) 0).fmod 5 ∧ (cs.getD (Int.toNat 0) 0).fmod 5 < 5 := by rw [Int.fmod_eq_emod_of_nonneg _ (by decide)]; omega
  refine src_rangeB (n := keysN cs) (fun i y => ∃ t, y = .int (keyOf cs i) t) rfl F1 N1 hr1 (range_small3 (by omega) (by omega)) (by rw [rangeSize_nat, hN, Int.sub_zero]; show ((Int.toNat (1 + (cs.getD 0 0).fmod 5) : Nat) : Int) = _; rw [← hN, Int.toNat_natCast]) (by rw [sizeLine_eq]; omega) ?hel ?fin
  case hel =>
    intro gh i v hi hv C oC m₂ h tk led E' hoC hx2 F' N' hC hsub
    obtain ⟨t, rfl⟩ := hv
    have hi5 : (i : Int) < 5 := by omega
    refine wpAny_mono (Q := EltEnd _ _ _ _ led (fun y => ∃ t, y = .int (keyOf cs i) t)) ?_ (fun _ _ h => h) (fun _ _ h => h)
    have hDc := hsub (Dc, listOf vs.toArray 0) (by simp)
    iterate 4 walk1
    refine lcf_cell (by k_asm) (by rfl) (hsub (L + 1, o1) (by simp)) d1 ?_ (by rfl) (by rfl)
    k_steps
    exact EltEnd.intro ⟨_, congrArg (fun z => Value.int z _) (key_eq cs i)⟩ (by k_asm) (by k_asm)
  case fin =>
    intro gh ys hl hys D3 h3 tk3 F3 N3 o3'
    have hks : IntsAre ys (keysOf cs) := kdy_ints (by rw [hl, keysOf_len]) fun j v hv => by
      obtain ⟨t, rfl⟩ := hys j v hv
      exact ⟨_, keysOf_at (by rw [← hl]; exact (List.getElem?_eq_some_iff.mp hv).1), t, rfl⟩
    have hnd3 : ND ([(D3, listOf ys.toArray ys.length), (Dc, listOf vs.toArray 0), (L + 1 + 1 + 1, o3)] ++ (L + 1 + 1, o2) :: ((L + 1, o1) :: (wl W ++ nl w.params 0 [n0] μ))) := nd_cons hnd (off1_mem o3')
    refine storeX_C (c := L + 1 + 1) F3 N3 (by rfl) (updF_at hnd3.cut.1 hnd3.cut.2) d2 ?_ (by rfl) (by rfl)
    intro h4 o4 F4 N4 d4
    have hnd4 : ND ([(D3, listOf ys.toArray ys.length), (Dc, listOf vs.toArray 0), (L + 1 + 1 + 1, o3), (L + 1 + 1, o4), (L + 1, o1)] ++ (wl W ++ nl w.params 0 [n0] μ)) := hnd3.same (by simp)
    dsimp only [List.cons_append, List.nil_append] at N4
    k_steps
    all_goals (try k_data)
    apply loop_go
    refine call_use2 (C := grown_call (pre := [(D3, listOf ys.toArray ys.length), (Dc, listOf vs.toArray 0), (L + 1 + 1 + 1, o3), (L + 1 + 1, o4), (L + 1, o1)]) (ks := keysOf cs) S.wis hnd4 (.head _) (by rw [hl, keysOf_len]) (fun i v hv => by
      obtain ⟨k, t, h1, h2⟩ := ints_at hks hv
      exact ⟨k, t, h2, h1⟩) (by rw [keysOf_len]; omega) (keysOf_nd hN5) (S.gr _) S.made S.hs) (ret := ?_)
    k_whole
    rintro r5 n5 h5 tk5 ⟨D, W', g, μ', T, c, rfl, G⟩ F5 N5
    have hled := G.led
    have hnd5 := G.nd
    subst hled
    have hnd6 : ND ([(D, listOf (refs g).toArray c), (D3, listOf ys.toArray ys.length), (Dc, listOf vs.toArray 0)] ++ (L + 1 + 1 + 1, o3) :: ((L + 1 + 1, o4) :: (L + 1, o1) :: (wl W' ++ nl w.params 0 g μ'))) := hnd5
    refine storeX_C (c := L + 1 + 1 + 1) F5 N5 (by rfl) (updF_at hnd6.cut.1 hnd6.cut.2) d3 ?_ (by rfl) (by rfl)
    intro h7 o7 F7 N7 d7
    refine k [(D, listOf (refs g).toArray c), (D3, listOf ys.toArray ys.length), (Dc, listOf vs.toArray 0), (L + 1 + 1 + 1, o7), (L + 1 + 1, o4), (L + 1, o1)] ⟨Dc, D3, D, o1, o4, o7, vs, ys, ys.length, c, cs, keysOf cs⟩ n0 g W'.x W' μ' T _ ?_ ?_ ?_ ?_ _ _ _ _ _ _ _ _ _ _ _ _ _ _ B (by k_asm) X (by k_asm) T' hd hu ?_
    · exact ⟨hcs, h12, hpos, hks, by rw [keysOf_len]; exact hN1, by rw [keysOf_len]; exact hN5, keysOf_nd hN5, G.e0, by simp, d1, by simp, by simp, d4, by simp, by simp, d7, by simp⟩
    · refine ⟨G.gr, G.wis, G.hs, rfl, ⟨o, ?_, S.dst⟩, ?_, hnd6.same (by simp)⟩
      · rw [G.same.st, G.same.rest]; exact S.st
      · rw [G.same.st]; exact S.lst
    · rw [G.same.x]; exact hw
    · exact hf
    · exact fun h tk m' F => ret h tk m' F

/-! stretches of the for's body -/
theorem mem_pre {p : Addr × Obj} {pre R : Led} (h : p ∈ pre) : p ∈ pre ++ R := List.mem_append.mpr (.inl h)
noncomputable def forBody : List Stmt := match lawBody.drop 7 with
  | .For _ _ b _ _ :: _ => b
  | _ => []
noncomputable def Run (w : World) (h₀ : Heap) (L : Addr) (t : Env → Sem Flow) (m : Str → Option Value) (news : Led) (Post : (Str → Option Value) → Led → Prop) : Prop :=
  ∀ (mean : ExcName → Option Value) (mg mb : Str → Option Value) (dp un : Nat) (gd : Option (List Code)) (fa : Addr) (ccd : Value) (outer : List Env) (A₀ : Around) (base : Heap) (s : Shared) (Q : Flow → Shared → Prop) (E : Value → Shared → Prop),
    Below A₀ base outer h₀ → Fr h₀ L s.heap m → (Mine.hd.heap_39 w.params).In h₀ → News h₀ L s.heap news → Top q (looseW q names) mean mg mb h₀ → dp + 100 < recursionLimit → un + 1000 < cLine →
    (∀ h tk m' news', Post m' news' → Fr h₀ L h m' → News h₀ L h news' → Q .next { s with heap := h, toks := tk }) →
    wpAny (model PySem.Challenge.rw_sj0191_01.row.prog w) (lawA dp un gd L fa ccd outer) (t (lawE L fa ccd)) Q E s
noncomputable def forIf : Stmt := match forBody.drop 2 with
  | s :: _ => s
  | [] => .Pass ⟨0, 0, 0, 0⟩
noncomputable def TurnP (w : World) (pre : Led) (P : Pl) (n0 : Nd) (g : List Nd) (X : Addr) (m : Str → Option Value) (nw : Led) : Prop :=
  ∃ (W : Wo) (μ : Nat → Mu) (T : Tr), St w pre P n0 g X W μ T ∧ m (Str.ofString "world") = some (.ref X) ∧ m (Str.ofString "first") = some (.ref n0.x) ∧ nw = pre ++ (wl W ++ nl w.params 0 g μ)
theorem kv_ints {μ : Nat → Mu} {kf : Nat → Int} : ∀ {T : Tr}, (∀ j ∈ T.idx, ∃ t, (μ j).k = .int (kf j) t) → IntsAre (T.kv μ) (T.idx.map kf)
  | .nil, _ => .nil
  | .node l i r, h => by
    obtain ⟨t, e⟩ := h i (by simp [Tr.idx])
    simp only [Tr.kv, Tr.idx, List.map_append, List.map_cons]
    rw [List.append_assoc]
    refine intsAre_app (kv_ints fun j hj => h j (by simp [Tr.idx, hj])) ?_
    rw [e]
    exact .cons _ _ (kv_ints fun j hj => h j (by simp [Tr.idx, hj]))
theorem range_kOf : ∀ (ks : List Int), (List.range' 1 ks.length).map (kOf ks) = ks := by
  intro ks
  refine List.ext_getElem? fun i => ?_
  rw [List.getElem?_map]
  by_cases h : i < ks.length
  · rw [List.getElem?_eq_getElem (l := List.range' 1 ks.length) (by simpa using h), List.getElem?_eq_getElem h, List.getElem_range']
    simp only [Option.map_some, Option.some.injEq]
    unfold kOf
    rw [List.getD_eq_getElem?_getD, show 1 + 1 * i - 1 = i by omega, List.getElem?_eq_getElem h]; rfl
  · rw [List.getElem?_eq_none (by simpa using h), List.getElem?_eq_none (by omega)]; rfl
theorem gr_sorted {g : List Nd} {μ : Nat → Mu} {T : Tr} {ks ns : List Int} (G : Gr g μ T (kOf ks) ks.length) (hp : ns.Perm ks) (hs : ns.Pairwise (· ≤ ·)) : T.idx.map (kOf ks) = ns := by
  have h1 : (T.idx.map (kOf ks)).Perm ks := by
    have := (idx_perm G.nd G.all).map (kOf ks)
    rwa [range_kOf] at this
  exact (lks_uniq (hp.trans h1.symm) hs (G.sorted.imp fun h => Int.le_of_lt h)).symm
theorem Fix.sub {L : Addr} {pre pre' : Led} {P : Pl} {n0 : Nd} {g : List Nd} (F : Fix L pre P n0 g) (h : ∀ p ∈ pre, p ∈ pre') : Fix L pre' P n0 g :=
  ⟨F.hcs, F.h12, F.hpos, F.hks, F.k1, F.k5, F.knd, F.e0, h _ F.cC, F.dC, h _ F.lC, h _ F.cK, F.dK, h _ F.lK, h _ F.cT, F.dT, h _ F.lT⟩
/-- collect, told of the law's state -/
theorem coll_use {w : World} {pre : Led} {P : Pl} {n0 : Nd} {g : List Nd} {X : Addr} {W : Wo} {μ : Nat → Mu} {T : Tr} {Rx : Addr} {rc : Nat} (S : St w pre P n0 g X W μ T) (e0 : g[0]? = some n0) (k5 : P.ks.length ≤ 5) (hR : ∀ p ∈ pre ++ (wl W ++ nl w.params 0 g μ), p.1 ≠ Rx) :
    Call w 341 [.ref X, .ref Rx] 24 ((Rx, listOf [].toArray rc) :: (pre ++ (wl W ++ nl w.params 0 g μ))) (fun r nw => ∃ (D : Addr) (c : Nat) (W' : Wo) (μ' : Nat → Mu), r = .ref D ∧ (∀ p ∈ pre ++ (wl W' ++ nl w.params 0 g μ'), p.1 ≠ D) ∧ nw = (D, listOf [].toArray c) :: (pre ++ (wl W' ++ nl w.params 0 g μ')) ∧ St w pre P n0 g X W' μ' T) := by
  obtain ⟨o, h1, h2⟩ := S.st
  have hx := S.x
  subst hx
  refine Call.post ((collect_full (pre := (Rx, listOf [].toArray rc) :: pre) S.gr e0 (by omega) S.wis (nd_cons S.nd hR) S.hs h1 h2 S.lst (.head _))) ?_
  rintro r nw ⟨D, Dh, es, n1, c, ch, f, rfl, hw, rfl, hnd⟩
  have hnd2 : ND ((D, listOf [].toArray c) :: (Rx, listOf [].toArray rc) :: (pre ++ (wl (W.putHl es n1 Dh (refs g) ch) ++ nl w.params 0 g (mks μ f)))) := hnd
  refine ⟨_, ⟨D, c, W.putHl es n1 Dh (refs g) ch, mks μ f, rfl, fun p hp e => ?_, rfl, ⟨gr_mks S.gr, hw, rfl, rfl, ⟨o, h1, h2⟩, S.lst, nd_tail (nd_tail hnd2)⟩⟩, fun p hp => ?_⟩
  · have := nd_swap hnd2
    have h3 := nd_tail this
    unfold ND at h3
    rw [List.map_cons, List.nodup_cons] at h3
    exact h3.1 (e ▸ List.mem_map_of_mem (f := (·.1)) hp)
  · rcases List.mem_cons.mp hp with rfl | hp
    · exact .head _
    · exact .tail _ (.tail _ hp)
theorem chg_law {P : Params} {pre : Led} {W : Wo} {g : List Nd} {μ μ' : Nat → Mu} (hd : ND (pre ++ (wl W ++ nl P 0 g μ))) : Chg (nl P 0 g μ) (nl P 0 g μ') (Off g) (pre ++ (wl W ++ nl P 0 g μ)) (pre ++ (wl W ++ nl P 0 g μ')) := by
  have hd' : ND ((pre ++ wl W) ++ nl P 0 g μ) := by rw [List.append_assoc]; exact hd
  have h := Chg.pre (A := nl P 0 g μ) (B := nl P 0 g μ') (off_of hd')
  rwa [List.append_assoc, List.append_assoc] at h
theorem turn_use {w : World} {pre : Led} {W : Wo} {g : List Nd} {μ μ' : Nat → Mu} {i j k : Nat} {no nu nw : Nd} {f sd : Fd} {t1 t2 : Nat} (hd : ND (pre ++ (wl W ++ nl w.params 0 g μ))) (e : g[i]? = some no) (e2 : g[j]? = some nu) (e3 : g[k]? = some nw) (hv : (μ i).get f = .ref nu.x) (hl : (μ j).get sd = .ref nw.x) (hsd : sd ≠ .K)
    (hμ : turned μ i f j k sd (.ref nu.x) (.ref nw.x) = μ') :
    Call w 374 [.ref no.x, .str f.s t1, .str sd.s t2] 8 (pre ++ (wl W ++ nl w.params 0 g μ)) (fun r nw => r = .bool true ∧ nw = pre ++ (wl W ++ nl w.params 0 g μ')) := by
  subst hμ
  exact turn_yes (sep_of (A := pre ++ wl W) (by rw [List.append_assoc]; exact hd)) e e2 e3 hv hl hsd (chg_law hd)
theorem St.turn {w : World} {pre : Led} {P : Pl} {n0 : Nd} {g : List Nd} {X : Addr} {W : Wo} {μ μ' : Nat → Mu} {T T' : Tr} (S : St w pre P n0 g X W μ T) (G : Gr g μ' T' (kOf P.ks) P.ks.length) : St w pre P n0 g X W μ' T' :=
  ⟨G, S.wis, S.hs, S.x, S.st, S.lst, S.nd.same (by simp [nl_addr])⟩
theorem opp_evalX {w : World} {A : Around} {h₀ : Heap} {L a : Addr} {cd : Value} {m : Str → Option Value} {s : Shared} {Q E : Value → Shared → Prop} {sd : Fd} {tk : Nat} {scope : Scope} {nm : Str} {cl : List (Str × Addr)} {p1 p2 p3 p4 p5 p6 : Pos}
    (F : Fr h₀ L s.heap m) (hsd : sd ≠ .K) (hm : m (Str.ofString "side") = some (.str sd.s tk)) (hk : scope.kind = .function) (hl : (envX nm scope L a cd cl).kindOf (Str.ofString "side") = some .local)
    (h : ∀ t tk', Q (.str (opp sd).s t) { s with toks := tk' }) :
    wpAny (model PySem.Challenge.rw_sj0191_01.row.prog w) A (eval (.IfExp (.Compare (.Name (Str.ofString "side") p1) [.Eq] [.Constant (.str (Str.ofString "RIGHT")) 0 p2] p3) (.Constant (.str (Str.ofString "LEFT")) 0 p4) (.Constant (.str (Str.ofString "RIGHT")) 0 p5) p6) (envX nm scope L a cd cl)) Q E s := by
  cases sd with
  | K => exact absurd rfl hsd
  | L =>
    walk1
    walk1
    refine nameX_L F hm ?_ hk hl (by decide)
    iterate 5 walk1
    exact h _ _
  | R =>
    walk1
    walk1
    refine nameX_L F hm ?_ hk hl (by decide)
    iterate 5 walk1
    exact h _ _
theorem gr_ne {g : List Nd} {μ : Nat → Mu} {T : Tr} {kf : Nat → Int} {n : Nat} (G : Gr g μ T kf n) (h : 1 ≤ n) : T.isNil = false := by
  have := G.size
  cases T with
  | nil => simp only [Tr.size] at this; omega
  | node l i r => rfl

local macro_rules | `(tactic| walk_at "compareOp NotEq ref ref") => `(tactic| (k_here; refine loop_here ?_))
local macro_rules | `(tactic| walk_at "compareOp Eq ref ref") => `(tactic| (k_here; refine loop_here ?_))
local macro_rules | `(tactic| walk_at "call builtin:sorted") => `(tactic| (k_here; refine loop_here ?_))
local macro_rules | `(tactic| k_mem) => `(tactic| first | exact mem_pre (by assumption) | (refine List.mem_cons_of_mem _ ?_; k_mem))
local macro_rules | `(tactic| walk_at "eval IfExp") => `(tactic| (k_here; refine loop_here ?_))

theorem run_check {w : World} {h₀ : Heap} {L : Addr} {pre : Led} {P : Pl} {n0 : Nd} {g : List Nd} {X : Addr} {W : Wo} {μ : Nat → Mu} {T : Tr} {m : Str → Option Value} (Fx : Fix L pre P n0 g) (S : St w pre P n0 g X W μ T) (hw : m (Str.ofString "world") = some (.ref X)) (hf : m (Str.ofString "first") = some (.ref n0.x)) :
    Run w h₀ L (execs (forBody.drop 3)) m (pre ++ (wl W ++ nl w.params 0 g μ)) (TurnP w pre P n0 g X) := by
  w_top off
  unfold Run
  k_fill
  intro mean mg mb dp un gd fa ccd outer A₀ base s Q E B F X' N T' hd hu ret
  obtain ⟨hcs, h12, hpos, hks, hk1, hk5, hknd, e0, cC, dC, lC, cK, dK, lK, cT, dT, lT⟩ := Fx
  have hnl : ∀ p ∈ nl w.params 0 g μ, p ∈ pre ++ (wl W ++ nl w.params 0 g μ) := fun p hp => List.mem_append.mpr (.inr (List.mem_append.mpr (.inr hp)))
  show wpAny _ (ktrTop _ _ _ _ ⟨_, _, _, _, _⟩ _ _ _ _ _) (execs (_ :: _) (envX _ ⟨_, _, _, _, _⟩ _ _ _ _)) _ _ _
  dsimp only
  k_steps
  all_goals (try k_data)
  apply loop_go
  refine call_use2 (C := keys_call (v := (μ 0).get .R) S.gr.tree (by rw [S.gr.size]; omega) _ hnl) (hd := by rw [S.gr.size]; ktr_room) (hu := by rw [S.gr.size]; ktr_units) (ret := ?_)
  k_whole
  rintro r5 n5 h5 tk5 ⟨D5, rfl, rfl, l5⟩ F5 N5
  have hkv := kv_ints (T := T) fun j hj => S.gr.key' hj
  k_steps
  all_goals (try k_data)
  apply loop_go
  refine kso_sorted F5 N5 (listAt N5 (.tail _ (mem_pre lK))) hks (by omega) ?_
  intro D9 vs9 ns9 c9 h9 F9 N9 l9 i9 _ p9 s9 _
  obtain rfl := gr_sorted S.gr p9 s9
  k_steps
  apply loop_go
  refine ne_intsK (listAt N9 (.tail _ (.head _))) hkv (listAt N9 (.head _)) i9 (by ktr_units) ?_
  simp only [decide_true, Bool.not_true]
  have N10 := news_sub (l' := pre ++ (wl W ++ nl w.params 0 g μ)) N9 fun p hp => .tail _ (.tail _ hp)
  clear N9 N5
  k_steps
  all_goals (try k_data)
  apply loop_go
  rename_i Rx h11 F11 N11 l11
  refine call_use2 (C := coll_use S e0 hk5 fun p hp => Nat.ne_of_lt (l11 p hp)) (ret := ?_)
  k_whole
  rintro r12 n12 h12' tk12 ⟨D12, c12, W', μ', rfl, o12, rfl, S'⟩ F12 N12
  k_steps
  all_goals (try k_data)
  apply loop_go
  refine ne_intsK (listAt (by k_asm) (.tail _ (.head _))) .nil (listAt (by k_asm) (.head _)) .nil (by ktr_units) ?_
  simp only [decide_true, Bool.not_true]
  k_steps
  all_goals (try k_data)
  exact ret _ _ _ _ ⟨W', μ', T, S', hw, hf, rfl⟩ (by k_asm) (news_sub (by k_asm) fun p hp => .tail _ (.tail _ hp))

theorem run_turn {w : World} {h₀ : Heap} {L : Addr} {pre : Led} {P : Pl} {n0 no : Nd} {g : List Nd} {X Dl : Addr} {W : Wo} {μ : Nat → Mu} {c : Cx} {l r : Tr} {j tf ts lc : Nat} {sd : Fd} {lv : List Value} {m : Str → Option Value} (Fx : Fix L pre P n0 g) (S : St w pre P n0 g X W μ (plug c (.node l j r)))
    (hw : m (Str.ofString "world") = some (.ref X)) (hf : m (Str.ofString "first") = some (.ref n0.x)) (ho : m (Str.ofString "owner") = some (.ref no.x)) (hfd : m (Str.ofString "field") = some (.str (slotF c).s tf)) (hsd : sd ≠ .K) (hside : m (Str.ofString "side") = some (.str sd.s ts))
    (hlk : m (Str.ofString "links") = some (.ref Dl)) (hll : (Dl, listOf lv.toArray lc) ∈ pre) (hli : IntsAre lv (lkL g μ (List.range g.length))) (hn : g[slotI c]? = some no) :
    Run w h₀ L (exec forIf) m (pre ++ (wl W ++ nl w.params 0 g μ)) (TurnP w pre P n0 g X) := by
  w_top off
  unfold Run
  k_fill
  intro mean mg mb dp un gd fa ccd outer A₀ base s Q E B F X' N T' hd hu ret
  obtain ⟨hcs, h12, hpos, hks, hk1, hk5, hknd, e0, cC, dC, lC, cK, dK, lK, cT, dT, lT⟩ := Fx
  have hnl : ∀ {W : Wo} {μ : Nat → Mu}, ∀ p ∈ nl w.params 0 g μ, p ∈ pre ++ (wl W ++ nl w.params 0 g μ) := fun p hp => List.mem_append.mpr (.inr (List.mem_append.mpr (.inr hp)))
  have hgl : g.length ≤ 6 := by have := S.gr.len; omega
  have hrl : (refs g).length ≤ 100 := by rw [refs_len]; omega
  have hrg : ∀ i ∈ List.range g.length, i < g.length := fun i hi => List.mem_range.mp hi
  have hsep : Sep g := sep_of (A := pre ++ wl W) (by rw [List.append_assoc]; exact S.nd)
  obtain ⟨nu, hvu, ej, hl, hr⟩ := isT_node (isT_plug e0 S.gr.tree).1
  have hch := (childsT (j := j) hl hr).use hsd
  show wpAny _ (ktrTop _ _ _ _ ⟨_, _, _, _, _⟩ _ _ _ _ _) (exec (.If _ _ _ _) (envX _ ⟨_, _, _, _, _⟩ _ _ _ _)) _ _ _
  dsimp only
  k_steps
  all_goals (try k_data)
  apply loop_go
  rcases hc : (Tr.node l j r).child sd with _ | ⟨a, k, b⟩
  · rw [hc] at hch
    obtain ⟨t3, hv3⟩ := isT_nil hch
    refine call_use2 (C := turn_no hn ej hvu hv3 hsd hnl) (ret := ?_)
    k_whole
    rintro r5 n5 h5 tk5 ⟨rfl, rfl⟩ F5 N5
    k_steps
    exact ret _ _ _ _ ⟨W, μ, _, S, hw, hf, rfl⟩ (by k_asm) (by k_asm)
  · obtain ⟨nu', nw, t⟩ := gr_turn hsd S.gr hc
    obtain rfl : nu = nu' := Option.some.inj (ej.symm.trans t.ej)
    have S1 := S.turn t.gr
    refine call_use2 (C := turn_use S.nd hn ej t.ek hvu t.hw hsd rfl) (ret := ?_)
    k_whole
    rintro r5 n5 h5 tk5 ⟨rfl, rfl⟩ F5 N5
    k_steps
    all_goals (try k_data)
    apply loop_go
    refine call_use2 (C := lks_call S1.gr hnl (mem_pre lT) (refs_all g) hrl hrg) (ret := ?_)
    k_whole
    rintro r6 n6 h6 tk6 ⟨D1, ys1, c1, rfl, hy1, o1, rfl⟩ F6 N6
    k_steps
    all_goals (try k_data)
    apply loop_go
    refine opp_evalX (by k_asm) hsd (by exact hside) (by rfl) (by rfl) ?_
    intro t7 tk7
    k_steps
    all_goals (try k_data)
    apply loop_go
    have hv2 : (turned μ (slotI c) (slotF c) j k sd (.ref nu.x) (.ref nw.x) (slotI c)).get (slotF c) = .ref nw.x := by rw [turned_get, if_pos ⟨rfl, rfl⟩]
    have hl2 : (turned μ (slotI c) (slotF c) j k sd (.ref nu.x) (.ref nw.x) k).get (opp sd) = .ref nu.x := by rw [turned_get, if_neg (fun q => t.ik q.1.symm), if_pos ⟨rfl, rfl⟩]
    refine call_use2 (C := turn_use (pre := (D1, listOf ys1.toArray c1) :: pre) (nd_cons S1.nd o1) hn t.ek ej hv2 hl2 opp_ne (turned_back hsd t.ij t.ik t.jk hvu t.hw)) (ret := ?_)
    k_whole
    rintro r8 n8 h8 tk8 ⟨rfl, rfl⟩ F8 N8
    dsimp only [List.cons_append] at N8
    k_steps
    all_goals (try k_data)
    apply loop_go
    refine call_use2 (C := lks_call S.gr (sub_cons hnl) (.tail _ (mem_pre lT)) (refs_all g) hrl hrg) (ret := ?_)
    k_whole
    rintro r9 n9 h9 tk9 ⟨D2, ys2, c2, rfl, hy2, o2, rfl⟩ F9 N9
    k_steps
    all_goals (try k_data)
    apply loop_go
    refine ne_intsK (listAt N9 (.head _)) hy2 (listAt N9 (.tail _ (.tail _ (mem_pre hll)))) hli (by ktr_units) ?_
    simp only [decide_true, Bool.not_true]
    k_steps
    all_goals (try k_data)
    apply loop_go
    refine eq_intsK (listAt N9 (.tail _ (.head _))) hy1 (listAt N9 (.tail _ (.tail _ (mem_pre hll)))) hli (by ktr_units) ?_
    rw [decide_eq_false (turn_lk hsep hsd S.gr t)]
    k_steps
    all_goals (try k_data)
    apply loop_go
    refine call_use2 (N := news_sub N9 fun p hp => .tail _ (.tail _ hp)) (C := turn_use S.nd hn ej t.ek hvu t.hw hsd rfl) (ret := ?_)
    k_whole
    rintro r10 n10 h10 tk10 ⟨rfl, rfl⟩ F10 N10
    k_steps
    all_goals (try k_data)
    refine ret _ _ _ _ ⟨W, _, _, S1, ?_, ?_, rfl⟩ F10 N10
    · exact hw
    · exact hf

/-! the right edge counted, the tree laid along it -/
noncomputable abbrev EJ1 (w : World) (pre : Led) (n0 : Nd) (g : List Nd) (X : Addr) (W : Wo) (μ : Nat → Mu) (T : Tr) (n : Nat) (m : Str → Option Value) (nw : Led) : Prop :=
  nw = pre ++ (wl W ++ nl w.params 0 g μ) ∧ ∃ (c : Cx) (S : Tr) (nO : Nd) (ed : Int) (te tm : Nat), plug c S = T ∧ S.size = n ∧ slotF c = .R ∧ g[slotI c]? = some nO ∧ m (Str.ofString "owner") = some (.ref nO.x) ∧ m (Str.ofString "edge") = some (.int ed te) ∧ ed + (spine S : Int) = spine T ∧
    m (Str.ofString "many") = some (.int 0 tm) ∧ m (Str.ofString "world") = some (.ref X) ∧ m (Str.ofString "first") = some (.ref n0.x)
noncomputable abbrev EJ2 (w : World) (pre : Led) (n0 : Nd) (g : List Nd) (X : Addr) (W : Wo) (ks : List Int) (T : Tr) (ed : Int) (n : Nat) (m : Str → Option Value) (nw : Led) : Prop :=
  ∃ (μ' : Nat → Mu) (c' : Cx) (S' : Tr) (nO : Nd) (mn : Int) (tm te : Nat), nw = pre ++ (wl W ++ nl w.params 0 g μ') ∧ Gr g μ' (plug c' S') (kOf ks) ks.length ∧ Down c' ∧ g[slotI c']? = some nO ∧ m (Str.ofString "owner") = some (.ref nO.x) ∧ m (Str.ofString "many") = some (.int mn tm) ∧
    mn + (S'.size : Int) + (spine T : Int) = T.size + (spine S' : Int) ∧ n = 2 * S'.size - spine S' ∧ m (Str.ofString "edge") = some (.int ed te) ∧ m (Str.ofString "world") = some (.ref X) ∧ m (Str.ofString "first") = some (.ref n0.x)
theorem law_edges {w : World} {h₀ : Heap} {L : Addr} {pre : Led} {P : Pl} {n0 : Nd} {g : List Nd} {X : Addr} {W : Wo} {μ : Nat → Mu} {T : Tr} {m : Str → Option Value} (Fx : Fix L pre P n0 g) (S : St w pre P n0 g X W μ T) (hw : m (Str.ofString "world") = some (.ref X)) (hf : m (Str.ofString "first") = some (.ref n0.x))
    (kont : ∀ (μ : Nat → Mu) (σ : List Nat) (m : Str → Option Value) (a b : Int) (ta tb : Nat), St w pre P n0 g X W μ (vine σ) → m (Str.ofString "world") = some (.ref X) → m (Str.ofString "first") = some (.ref n0.x) → m (Str.ofString "many") = some (.int a ta) → m (Str.ofString "edge") = some (.int b tb) →
      a = (P.ks.length : Int) - b → Law w h₀ L 12 m (pre ++ (wl W ++ nl w.params 0 g μ))) :
    Law w h₀ L 8 m (pre ++ (wl W ++ nl w.params 0 g μ)) := by
  w_top off
  unfold Law
  k_fill
  intro mean mg mb dp un gd fa ccd outer A₀ base s Q E B F X' N T' hd hu ret
  have Fx' := Fx
  obtain ⟨hcs, h12, hpos, hks, hk1, hk5, hknd, e0, cC, dC, lC, cK, dK, lK, cT, dT, lT⟩ := Fx'
  have hnl : ∀ p ∈ nl w.params 0 g μ, p ∈ pre ++ (wl W ++ nl w.params 0 g μ) := fun p hp => List.mem_append.mpr (.inr (List.mem_append.mpr (.inr hp)))
  show wpAny _ (ktrTop _ _ _ _ ⟨_, _, _, _, _⟩ _ _ _ _ _) (execs (_ :: _) (envX _ ⟨_, _, _, _, _⟩ _ _ _ _)) _ _ _
  dsimp only
  refine wpAny_noRaise ?_
  k_steps
  all_goals (try k_data)
  apply loop_go
  refine While_inv (n₀ := T.size) (news := pre ++ (wl W ++ nl w.params 0 g μ)) (EJ1 w pre n0 g X W μ T) (by k_asm) (news_sub (by k_asm) fun p hp => .tail _ hp) ?hj ?turn
  case hj => exact ⟨rfl, .top, T, n0, _, _, _, rfl, rfl, rfl, e0, rfl, rfl, by omega, rfl, hw, hf⟩
  case turn =>
    rintro n m₂ nw h₂ tk₂ F2 N2 ⟨rfl, c, S', nO, ed, te, tm, q1, q2, q3, q4, q5, q6, q7, q8, q9, q10⟩
    subst q1
    have hst := (isT_plug (c := c) (S := S') e0 S.gr.tree).1
    rw [q3] at hst
    rcases S' with _ | ⟨l, j, r⟩
    · obtain ⟨tn, hval⟩ := isT_nil hst
      k_steps
      all_goals (try k_data)
      have hed : ed = (spine (plug c .nil) : Int) := by simpa [spine] using q7
      apply loop_go
      have hspl := spine_le (plug c .nil)
      have hsz := S.gr.size
      refine While_inv (n₀ := 2 * (plug c .nil).size - spine (plug c .nil)) (news := pre ++ (wl W ++ nl w.params 0 g μ)) (EJ2 w pre n0 g X W P.ks (plug c .nil) ed) (by k_asm) (by k_asm) ?hj ?turn
      case hj => exact ⟨μ, .top, plug c .nil, n0, 0, _, _, rfl, S.gr, trivial, e0, rfl, q8, by omega, rfl, q6, q9, q10⟩
      case turn =>
        rintro n m₃ nw h₃ tk₃ F3 N3 ⟨μ', c', S', nO', mn, tm', te', rfl, G, z3, z4, z5, z6, z7, z8, z9, z10, z11⟩
        have hst := (isT_plug (c := c') (S := S') e0 G.tree).1
        have hF := down_F z3
        rw [hF] at hst
        have hnl' : ∀ p ∈ nl w.params 0 g μ', p ∈ pre ++ (wl W ++ nl w.params 0 g μ') := fun p hp => List.mem_append.mpr (.inr (List.mem_append.mpr (.inr hp)))
        rcases S' with _ | ⟨l, j, r⟩
        · obtain ⟨tn, hval⟩ := isT_nil hst
          repeat' ((fail_if_success (with_reducible show wpAny _ _ (execs (_ :: _) _) _ _ _)); (first | (k_unfold; (try dsimp only)) | (k_end; wrow_close) | walk1 | (dsimp only; walk1)))
          all_goals (try k_data)
          have hv0 : plug c' Tr.nil = vine (cl c' ++ []) := down_vine (σ := []) z3
          rw [hv0] at G
          have hmn : mn = (P.ks.length : Int) - ed := by
            simp only [Tr.size, spine] at z7
            omega
          refine kont μ' _ m₃ mn ed _ _ (S.turn G) z10 z11 z6 z9 hmn _ _ _ _ _ _ _ _ _ _ _ _ _ _ B (by k_asm) X' (by k_asm) T' hd hu ?_
          exact fun h tk m' F => ret h tk m' F
        · obtain ⟨nS, hval, eS, hsl, hsr⟩ := isT_node hst
          k_steps
          all_goals (try k_data)
          apply loop_go
          rcases l with _ | ⟨a, k, b⟩
          · obtain ⟨t3, hv3⟩ := isT_nil hsl
            refine call_use2 (C := turn_no (f := .R) (sd := .L) z4 eS hval hv3 (by simp) hnl') (ret := ?_)
            k_whole
            rintro r5 n5 h5 tk5 ⟨rfl, rfl⟩ F5 N5
            k_steps
            all_goals (try k_data)
            have hsr' := spine_le r
            refine' WhileStep.intro (n' := 2 * r.size - spine r) ?F ?N ?hn ?J
            case F => k_asm
            case N => k_asm
            case hn => simp only [Tr.size, spine] at z8; omega
            case J => exact ⟨μ', .r .nil j c', r, nS, mn, _, _, rfl, G, ⟨rfl, z3⟩, eS, rfl, z6, by simp only [Tr.size, spine] at z7; omega, rfl, z9, z10, z11⟩
          · obtain ⟨nS', nW, t⟩ := gr_turn (sd := .L) (by simp) G rfl
            obtain rfl : nS = nS' := Option.some.inj (eS.symm.trans t.ej)
            have hnd := S.nd.same (l' := pre ++ (wl W ++ nl w.params 0 g μ')) (by simp [nl_addr])
            refine call_use2 (C := turn_use (f := .R) (sd := .L) hnd z4 eS t.ek hval t.hw (by simp) rfl) (ret := ?_)
            k_whole
            rintro r5 n5 h5 tk5 ⟨rfl, rfl⟩ F5 N5
            k_steps
            all_goals (try k_data)
            refine wpAny_loadName_local (by rfl) (by rfl) (Fr.ns F5) z6 ?_
            k_steps
            all_goals (try k_data)
            have hsr' := spine_le r
            have G2 := t.gr
            rw [hF] at G2
            refine' WhileStep.intro (n' := 2 * (Tr.node a k (.node b j r)).size - spine (Tr.node a k (.node b j r))) ?F ?N ?hn ?J
            case F => k_asm
            case N => k_asm
            case hn => simp only [Tr.size, spine] at z8 ⊢; omega
            case J => exact ⟨_, c', .node a k (.node b j r), nO', mn + 1, _, _, rfl, G2, z3, z4, z5, rfl, by simp only [Tr.size, spine] at z7 ⊢; omega, rfl, z9, z10, z11⟩
    · obtain ⟨nS, hval, eS, hsl, hsr⟩ := isT_node hst
      simp only [Tr.size] at q2
      k_steps
      all_goals (try k_data)
      have hs7 : ed + 1 + (spine r : Int) = spine (plug c (.node l j r)) := by rw [← q7]; simp only [spine]; omega
      refine' WhileStep.intro (n' := r.size) ?F ?N ?hn ?J
      case F => k_asm
      case N => exact news_sub (by k_asm) fun p hp => .tail _ hp
      case hn => omega
      case J => exact ⟨rfl, .r l j c, r, nS, _, _, _, rfl, rfl, rfl, eS, rfl, rfl, hs7, q8, q9, q10⟩

local macro_rules | `(tactic| walk_at "exec If Call") => `(tactic| (k_here; refine loop_here ?_))

theorem law_for {w : World} {h₀ : Heap} {L : Addr} {pre : Led} {P : Pl} {n0 : Nd} {g : List Nd} {X : Addr} {W : Wo} {μ : Nat → Mu} {T : Tr} {m : Str → Option Value} (Fx : Fix L pre P n0 g) (S : St w pre P n0 g X W μ T) (hw : m (Str.ofString "world") = some (.ref X)) (hf : m (Str.ofString "first") = some (.ref n0.x))
    (kont : ∀ (pre : Led) (W : Wo) (μ : Nat → Mu) (T : Tr) (m : Str → Option Value), Fix L pre P n0 g → St w pre P n0 g X W μ T → m (Str.ofString "world") = some (.ref X) → m (Str.ofString "first") = some (.ref n0.x) → Law w h₀ L 8 m (pre ++ (wl W ++ nl w.params 0 g μ))) :
    Law w h₀ L 7 m (pre ++ (wl W ++ nl w.params 0 g μ)) := by
  w_top off
  unfold Law
  k_fill
  intro mean mg mb dp un gd fa ccd outer A₀ base s Q E B F X' N T' hd hu ret
  have Fx' := Fx
  obtain ⟨hcs, h12, hpos, hks, hk1, hk5, hknd, e0, cC, dC, lC, cK, dK, lK, cT, dT, lT⟩ := Fx'
  show wpAny _ (ktrTop _ _ _ _ ⟨_, _, _, _, _⟩ _ _ _ _ _) (execs (_ :: _) (envX _ ⟨_, _, _, _, _⟩ _ _ _ _)) _ _ _
  dsimp only
  refine wpAny_noRaise ?_
  walk1
  with_unfolding_all refine' For_invVF F ?k1 ?k2 ?_
  case k1 => exact rfl
  case k2 => exact rfl
  k_whole
  k_steps
  all_goals (try k_data)
  apply loop_go
  rename_i tD DS wsS hS FS NS lS hiS hcS hlS
  have hndS : ND ((DS, listOf wsS.toArray 0) :: (pre ++ (wl W ++ nl w.params 0 g μ))) := nd_cons S.nd fun q hq => Nat.ne_of_lt (lS q hq)
  refine for_list (news := ((DS, listOf wsS.toArray 0) :: pre) ++ (wl W ++ nl w.params 0 g μ)) (fun i m nx => TurnP w ((DS, listOf wsS.toArray 0) :: pre) P n0 g X m nx) rfl (.head _) (by exact FS) (by exact NS) ?hj ?turn ?done
  case hj => exact ⟨W, μ, T, ⟨S.gr, S.wis, S.hs, S.x, S.st, S.lst, hndS⟩, hw, hf, rfl⟩
  case done =>
    rintro m₁ nx h tk ⟨W1, μ1, T1, S1, hw1, hf1, rfl⟩ F1 N1
    dsimp only
    refine kont _ W1 μ1 T1 m₁ (Fx.sub fun p hp => .tail _ hp) S1 hw1 hf1 _ _ _ _ _ _ _ _ _ _ _ _ _ _ B (by exact F1) X' (by exact N1) T' hd hu ?_
    exact fun h tk m' F => ret h tk m' F
  case turn =>
    rintro i v m₁ nx I oI ol h tk hi ⟨W1, μ1, T1, S1, hw1, hf1, rfl⟩ hI hIl F1 N1
    obtain ⟨told, tt, htd, rfl⟩ := ints_at hiS hi
    have ht0 : 0 ≤ told := hpos _ (List.mem_of_mem_drop (List.mem_of_mem_take (List.mem_of_getElem? htd)))
    clear hcs h12 hpos hks hk1 hk5 hknd e0 cC dC lC cK dK lK cT dT lT
    obtain rfl : ol = listOf wsS.toArray 0 := news_same N1 (.tail _ (.head _)) (.tail _ (.tail _ (.head _)))
    have N2 := news_sub (l' := ((I, oI) :: (DS, listOf wsS.toArray 0) :: pre) ++ (wl W1 ++ nl w.params 0 g μ1)) N1 (sub_both (.head _) fun p hp => .tail _ (.tail _ hp))
    clear N1
    have S2 : St w ((I, oI) :: (DS, listOf wsS.toArray 0) :: pre) P n0 g X W1 μ1 T1 := ⟨S1.gr, S1.wis, S1.hs, S1.x, S1.st, S1.lst, nd_cons S1.nd hI⟩
    have Fx2 : Fix L ((I, oI) :: (DS, listOf wsS.toArray 0) :: pre) P n0 g := Fx.sub fun p hp => .tail _ (.tail _ hp)
    generalize hpre2 : (I, oI) :: (DS, listOf wsS.toArray 0) :: pre = pre2 at N2 S2 Fx2
    have N3 : News h₀ L h (pre2 ++ (wl W1 ++ nl w.params 0 g μ1)) := N2
    have F3 : Fr h₀ L h _ := F1
    clear N2 F1
    obtain ⟨hcs, h12, hpos, hks, hk1, hk5, hknd, e0, cC, dC, lC, cK, dK, lK, cT, dT, lT⟩ := Fx2
    k_steps
    all_goals (try k_data)
    apply loop_go
    have hnl : ∀ {W : Wo} {μ : Nat → Mu}, ∀ p ∈ nl w.params 0 g μ, p ∈ pre2 ++ (wl W ++ nl w.params 0 g μ) := fun p hp => List.mem_append.mpr (.inr (List.mem_append.mpr (.inr hp)))
    have hgl : g.length ≤ 6 := by have := S2.gr.len; omega
    have hrl : (refs g).length ≤ 100 := by rw [refs_len]; omega
    refine call_use2 (C := place_call e0 S2.gr.tree (gr_ne S2.gr hk1) hnl (by rw [Int.fmod_eq_emod_of_nonneg _ (by decide)]; omega) (by rw [Int.fmod_eq_emod_of_nonneg _ (by decide)]; omega)) (ret := ?_)
    k_whole
    rintro r5 n5 h5 tk5 ⟨D5, c, Sx, no, t5, rfl, rfl, l5, hpl, hnil, hno⟩ F5 N5
    obtain ⟨l, j, r, rfl⟩ := Tr.not_nil hnil
    subst hpl
    k_steps
    all_goals (try k_data)
    apply loop_go
    rename_i hA hB hC lF hF FF NF lFF tFF
    refine call_use2 (N := news_sub NF fun p hp => .tail _ (.tail _ hp)) (C := lks_call S2.gr hnl (mem_pre lT) (refs_all g) hrl fun i hi => List.mem_range.mp hi) (ret := ?_)
    k_whole
    rintro r6 n6 h6 tk6 ⟨D6, ys6, c6, rfl, hy6, o6, rfl⟩ F6 N6
    clear NF lFF
    have S6 : St w ((D6, listOf ys6.toArray c6) :: pre2) P n0 g X W1 μ1 (plug c (.node l j r)) := ⟨S2.gr, S2.wis, S2.hs, S2.x, S2.st, S2.lst, nd_cons S2.nd o6⟩
    have Fx6 : Fix L ((D6, listOf ys6.toArray c6) :: pre2) P n0 g := Fx.sub fun p hp => .tail _ (hpre2 ▸ .tail _ (.tail _ hp))
    k_steps
    all_goals (try k_data)
    apply loop_go
    rename_i DT hq1 lDT hq2 hq3 hq4 FT NT
    refine run_turn (tf := t5) (ts := tFF) (sd := sdOf (told.fmod 2)) Fx6 S6 ?_ ?_ ?_ ?_ (sdOf_ne _) ?_ ?_ (.head _) hy6 hno _ _ _ _ _ _ _ _ _ _ _ _ _ _ B (by exact FT) X' (by exact news_sub NT fun p hp => .tail _ hp) T' hd hu ?_
    · exact hw1
    · exact hf1
    · exact rfl
    · exact rfl
    · exact rfl
    · exact rfl
    rintro h7 tk7 m7 n7 ⟨W7, μ7, T7, S7, hw7, hf7, rfl⟩ F7 N7
    dsimp only
    refine run_check Fx6 S7 hw7 hf7 _ _ _ _ _ _ _ _ _ _ _ _ _ _ B (by exact F7) X' (by exact N7) T' hd hu ?_
    rintro h8 tk8 m8 n8 ⟨W8, μ8, T8, S8, hw8, hf8, rfl⟩ F8 N8
    subst hpre2
    have S9 := S8.nd
    have hI8 : ∀ q ∈ ((DS, listOf wsS.toArray 0) :: pre) ++ (wl W8 ++ nl w.params 0 g μ8), q.1 ≠ I := fun q hq e => by
      have h1 : ND ((I, oI) :: (((DS, listOf wsS.toArray 0) :: pre) ++ (wl W8 ++ nl w.params 0 g μ8))) := nd_tail S9
      unfold ND at h1
      rw [List.map_cons, List.nodup_cons] at h1
      exact h1.1 (e ▸ List.mem_map_of_mem (f := (·.1)) hq)
    refine LEnd.intro (news' := ((DS, listOf wsS.toArray 0) :: pre) ++ (wl W8 ++ nl w.params 0 g μ8)) (by exact F8) (by exact news_sub N8 (sub_both (.tail _ (.head _)) (sub_both (.tail _ (.tail _ (.head _))) fun p hp => .tail _ (.tail _ hp)))) hI8 ⟨W8, μ8, T8, ⟨S8.gr, S8.wis, S8.hs, S8.x, S8.st, S8.lst, nd_tail (nd_tail S9)⟩, hw8, hf8, rfl⟩

/-! plain facts for the end -/
theorem kOf_mem {ks : List Int} {j : Nat} (h1 : 1 ≤ j) (h2 : j ≤ ks.length) : ks[j - 1]? = some (kOf ks j) := by
  have hj : j - 1 < ks.length := by omega
  unfold kOf
  rw [List.getD_eq_getElem?_getD, List.getElem?_eq_getElem hj]; rfl
theorem kOf_idx {ks : List Int} {j : Nat} (nd : ks.Nodup) (h1 : 1 ≤ j) (h2 : j ≤ ks.length) : kOf ks j ∈ ks ∧ ks.idxOf (kOf ks j) = j - 1 := by
  have h := kOf_mem h1 h2
  have hm := List.mem_of_getElem? h
  refine ⟨hm, ?_⟩
  have hl : ks.idxOf (kOf ks j) < ks.length := List.idxOf_lt_length_iff.mpr hm
  have e : ks[ks.idxOf (kOf ks j)]? = some (kOf ks j) := by
    rw [List.getElem?_eq_getElem hl]
    congr 1
    simpa using List.getElem_idxOf hl
  exact (List.getElem?_inj hl nd).mp (e.trans h.symm)
theorem index_ints {prog : Program} {w : World} {A : Around} {E : Value → Shared → Prop} {s : Shared} {h₀ : Heap} {L l : Addr} {news : Led} {vs : List Value} {ns : List Int} {k : Int} {t n : Nat} {Q : Value → Shared → Prop} (N : News h₀ L s.heap news) (hm : (l, listOf vs.toArray n) ∈ news) (hi : IntsAre vs ns) (hz : ns.length ≤ 100) (hk : k ∈ ns)
    (h : Q (.int (ns.idxOf k : Nat) s.toks) { s with toks := s.toks + 1 }) : wpAny (model prog w) A (call (.builtin "list.index") [.ref l, .int k t]) Q E s := by
  have ho := (N _ hm).1
  have hlen := hi.length
  have hj : ns.idxOf k < ns.length := List.idxOf_lt_length_iff.mpr hk
  refine call_meets PySem.F.slot_list_index ⟨_, ho, rfl⟩ PySem.F.entry_list_index (PySem.F.args_list_index_2 _ _)
    (SeqAt.list_indexAt l vs.toArray n none #[] (.int k t) (isInt k) (ns.idxOf k) (by simpa [hlen] using hj) (by omega) ?_ ?_) ⟨ho, fun y hy => (eq_isInt k t hi y (by simpa using hy)).at _ _, h⟩
  · show isInt k vs[ns.idxOf k] = true
    rw [isInt_at k hi _ (by omega) hj]
    simpa using List.getElem_idxOf hj
  · intro j hjs hlt
    show isInt k vs[j] = false
    rw [isInt_at k hi j (by simpa using hjs) (by omega)]
    exact ne_of_lt_idxOf hlt _
theorem chain_links {g : List Nd} {μ : Nat → Mu} (sp : Sep g) (hn : ∀ (j : Nat) (d : Nd), g[j]? = some d → d.num = (j : Int) + 1) : ∀ {σ : List Nat} {v : Value}, IsT g μ v (vine σ) →
    [lz g v] ++ (σ.flatMap fun i => [lz g (μ i).l, lz g (μ i).r]) = (σ.flatMap fun j : Nat => [(j : Int) + 1, 0]) ++ [0]
  | [], v, h => by
    obtain ⟨t, rfl⟩ := isT_nil (by exact h)
    rw [lz_eq sp (.inl ⟨t, rfl, rfl⟩)]; rfl
  | i :: r, v, h => by
    obtain ⟨n, rfl, e, hl, hr⟩ := isT_node (by exact h)
    obtain ⟨t, ht⟩ := isT_nil hl
    have ih := chain_links sp hn hr
    rw [lz_eq sp (v := .ref n.x) (.inr ⟨i, n, e, rfl, rfl⟩), hn _ _ e]
    simp only [List.flatMap_cons, List.cons_append, List.nil_append, List.append_assoc] at ih ⊢
    rw [ht, lz_eq sp (.inl ⟨t, rfl, rfl⟩), ih]
theorem shift_zero : ∀ σ : List Nat, 0 :: (σ.flatMap fun j : Nat => [(j : Int) + 1, 0]) = (σ.flatMap fun j : Nat => [0, (j : Int) + 1]) ++ [0]
  | [] => rfl
  | i :: r => by
    have ih := shift_zero r
    simp only [List.flatMap_cons, List.cons_append, List.nil_append]
    rw [ih]
theorem vine_links {g : List Nd} {μ : Nat → Mu} {σ : List Nat} {kf : Nat → Int} {n : Nat} (sp : Sep g) (G : Gr g μ (vine σ) kf n) : lkL g μ (0 :: σ) = (σ.flatMap fun j : Nat => [0, (j : Int) + 1]) ++ [0, 0] := by
  obtain ⟨t, ht⟩ := G.l0
  have h := chain_links sp G.num G.tree
  unfold lkL
  rw [List.flatMap_cons, ht, lz_eq sp (.inl ⟨t, rfl, rfl⟩)]
  show 0 :: ([lz g (μ 0).r] ++ _) = _
  rw [h, show (σ.flatMap fun j : Nat => [0, (j : Int) + 1]) ++ [0, 0] = ((σ.flatMap fun j : Nat => [0, (j : Int) + 1]) ++ [0]) ++ [0] by simp, ← shift_zero]
  rfl
theorem vine_split {σ : List Nat} {c j : Nat} (h : σ[c]? = some j) : σ.take c ++ j :: σ.drop (c + 1) = σ ∧ σ.take (c + 1) = σ.take c ++ [j] := by
  obtain ⟨hl, e⟩ := List.getElem?_eq_some_iff.mp h
  constructor
  · rw [← e, ← List.drop_eq_getElem_cons hl, List.take_append_drop]
  · rw [List.take_add_one, h]; rfl
/-- the vine cut behind a thing -/
theorem vine_cut {g : List Nd} {μ : Nat → Mu} {σ : List Nat} {kf : Nat → Int} {n c j t : Nat} {n0 : Nd} (G : Gr g μ (vine σ) kf n) (e0 : g[0]? = some n0) (h : σ[c]? = some j) : IsT g (put μ j .R (.str "" t)) (.ref n0.x) (.node .nil 0 (vine (σ.take (c + 1)))) := by
  obtain ⟨h1, h2⟩ := vine_split h
  have hp : plug (vcx .top (σ.take c ++ [j])) (vine (σ.drop (c + 1))) = vine σ := by
    rw [vcx_plug]
    show vine _ = _
    rw [List.append_assoc]
    exact congrArg vine h1
  have hs := vcx_slot (σ := σ.take c) (c := .top) (i := j)
  have hj : j ∈ (vine σ).idx := by rw [vine_idx]; exact List.mem_of_getElem? h
  have hj1 := (G.all j).mp hj
  have hT : IsT g (put μ j .R (.str "" t)) (put μ j .R (.str "" t) 0).r (plug (vcx .top (σ.take c ++ [j])) .nil) := by
    refine isT_replug (μ := μ) (S := vine (σ.drop (c + 1))) (by rw [hp]; exact G.tree) (by rw [hp]; exact G.nd0) ⟨n0, e0⟩ (fun x f _ _ q => ?_) ?_
    · refine put_get_ne fun e => q ?_
      rw [hs.1, hs.2]; exact e
    · rw [hs.1, hs.2, put_get_same]; exact .nil
  have hv : plug (vcx .top (σ.take c ++ [j])) .nil = vine (σ.take (c + 1)) := by
    have := vcx_plug (σ := σ.take c ++ [j]) (c := .top) (τ := [])
    rw [List.append_nil, ← h2] at this
    rw [← h2]
    exact this
  rw [hv] at hT
  obtain ⟨t0, ht0⟩ := G.l0
  refine .node e0 ?_ hT
  rw [put_l (by simp), ht0]; exact .nil
theorem pickN_mem {b : Nat → Bool} {x : Int} : ∀ n, x ∈ pickN b n ↔ ∃ i, i < n ∧ b i = true ∧ x = (i : Int) + 1
  | 0 => by simp [pickN]
  | n + 1 => by
    show x ∈ pickN b n ++ (bif b n then [(n : Int) + 1] else []) ↔ _
    rw [List.mem_append, pickN_mem n]
    constructor
    · rintro (⟨i, h1, h2, h3⟩ | h)
      · exact ⟨i, by omega, h2, h3⟩
      · cases hb : b n with
        | true => rw [hb] at h; exact ⟨n, by omega, hb, List.mem_singleton.mp h⟩
        | false => rw [hb] at h; cases h
    · rintro ⟨i, h1, h2, h3⟩
      by_cases hi : i = n
      · subst hi; right; rw [h2, h3]; exact .head _
      · exact .inl ⟨i, by omega, h2, h3⟩
theorem pickN_nd {b : Nat → Bool} : ∀ n, (pickN b n).Nodup
  | 0 => .nil
  | n + 1 => by
    show (pickN b n ++ (bif b n then [(n : Int) + 1] else [])).Nodup
    refine List.nodup_append.mpr ⟨pickN_nd n, by cases b n <;> simp, fun x hx y hy => ?_⟩
    have := pickN_lt b n x hx
    cases hb : b n with
    | true => rw [hb] at hy; have := List.mem_singleton.mp hy; omega
    | false => rw [hb] at hy; cases hy
/-- what is gone behind the cut -/
theorem gone_eq {g : List Nd} {μ : Nat → Mu} {σ : List Nat} {kf : Nat → Int} {n c j : Nat} {ns : List Int} (G : Gr g μ (vine σ) kf n) (h : σ[c]? = some j) (hp : ns.Perm ((σ.drop (c + 1)).map fun i : Nat => (i : Int) + 1)) (hs : ns.Pairwise (· ≤ ·)) :
    pickN (fun i => !decide (i ∈ (Tr.node .nil 0 (vine (σ.take (c + 1)))).idx)) g.length = ns := by
  have hσ : ∀ i, i ∈ σ ↔ 1 ≤ i ∧ i ≤ n := fun i => by have := G.all i; rwa [vine_idx] at this
  have hnd : σ.Nodup := by have := G.nd; rwa [vine_idx] at this
  have hgl := G.len
  have hin : ∀ i, i ∈ (Tr.node .nil 0 (vine (σ.take (c + 1)))).idx ↔ i = 0 ∨ i ∈ σ.take (c + 1) := fun i => by simp [Tr.idx, vine_idx]
  have hsplit : σ.take (c + 1) ++ σ.drop (c + 1) = σ := List.take_append_drop ..
  have hdis : ∀ i, i ∈ σ.take (c + 1) → i ∉ σ.drop (c + 1) := fun i h1 h2 => by
    rw [← hsplit] at hnd
    exact (List.nodup_append.mp hnd).2.2 i h1 i h2 rfl
  have hper : (pickN (fun i => !decide (i ∈ (Tr.node .nil 0 (vine (σ.take (c + 1)))).idx)) g.length).Perm ((σ.drop (c + 1)).map fun i : Nat => (i : Int) + 1) := by
    refine (List.perm_ext_iff_of_nodup (pickN_nd _) ?_).mpr fun x => ?_
    · refine List.pairwise_map.mpr ?_
      refine (hnd.sublist (List.drop_sublist _ _)).imp fun hne e => hne (by omega)
    · rw [pickN_mem, List.mem_map]
      constructor
      · rintro ⟨i, h1, h2, rfl⟩
        have h3 : i ≠ 0 ∧ i ∉ σ.take (c + 1) := by
          simp only [Bool.not_eq_true', decide_eq_false_iff_not, hin, not_or] at h2
          exact h2
        have h4 : i ∈ σ := (hσ i).mpr (by omega)
        rw [← hsplit] at h4
        rcases List.mem_append.mp h4 with h5 | h5
        · exact absurd h5 h3.2
        · exact ⟨i, h5, rfl⟩
      · rintro ⟨i, h1, rfl⟩
        have h4 : i ∈ σ := List.mem_of_mem_drop h1
        have h5 := (hσ i).mp h4
        refine ⟨i, by omega, ?_, rfl⟩
        simp only [Bool.not_eq_true', decide_eq_false_iff_not, hin, not_or]
        exact ⟨by omega, fun h6 => hdis i h6 h1⟩
  exact (lks_uniq (hp.trans hper.symm) hs (pickN_sorted _ _)).symm

local macro_rules | `(tactic| walk_at "exec For Name Name") => `(tactic| (k_here; refine loop_here ?_))
local macro_rules | `(tactic| walk_at "call builtin:list.index") => `(tactic| (k_here; refine loop_here ?_))
local macro_rules | `(tactic| walk_at "subscriptTail") => `(tactic| (k_here; (with_reducible show wpAny _ _ (subscriptTail _ _ (Value.ref _) (Value.int _ _)) _ _ _); refine loop_here ?_))
local macro_rules | `(tactic| walk_at "call builtin:len") => `(tactic| (k_here; refine loop_here ?_))
local macro_rules | `(tactic| walk_at "call ref") => `(tactic| (k_here; (with_reducible show wpAny _ _ (call (Value.ref 355) _) _ _ _); refine loop_here ?_))

/-! the vine listed, and what is due -/
theorem item_I {prog : Program} {w : World} {A : Around} {E : Value → Shared → Prop} {s : Shared} {h₀ : Heap} {L vx : Addr} {news : Led} {Q : Value → Shared → Prop} {value slice : PySem.Expr} {its : List Value} {k : Int} {v : Value} {u n : Nat} (N : News h₀ L s.heap news) (hm : (vx, listOf its.toArray n) ∈ news) (h0 : 0 ≤ k) (hj : k < 1000) (hv : its[k.toNat]? = some v) (h : Q v s)
    (hs : subscripted slice false (.ref vx) (.int k u) = operate [.ref vx, .int k u] (getItem (.ref vx) (.int k u)) := by with_unfolding_all rfl) :
    wpAny (model prog w) A (subscriptTail value slice (.ref vx) (.int k u)) Q E s :=
  have hl := listAt N hm
  tail_any hl.typeIs slot_list_getitem.lookup (wpAny_getItem_list hl h0 (by omega) (by simpa using hv) h) hs
theorem law_vine {w : World} {h₀ : Heap} {L : Addr} {pre : Led} {P : Pl} {n0 : Nd} {g : List Nd} {X : Addr} {W : Wo} {μ : Nat → Mu} {σ : List Nat} {m : Str → Option Value} {a b : Int} {ta tb : Nat} (Fx : Fix L pre P n0 g) (S : St w pre P n0 g X W μ (vine σ)) (hw : m (Str.ofString "world") = some (.ref X)) (hf : m (Str.ofString "first") = some (.ref n0.x))
    (hm : m (Str.ofString "many") = some (.int a ta)) (he : m (Str.ofString "edge") = some (.int b tb))
    (kont : ∀ (pre : Led) (Dv Dd : Addr) (ys dv : List Value) (vc dc : Nat) (m : Str → Option Value), Fix L pre P n0 g → St w pre P n0 g X W μ (vine σ) → (Dv, listOf ys.toArray vc) ∈ pre → Refs g σ ys → (Dd, listOf dv.toArray dc) ∈ pre → IntsAre dv (σ.flatMap fun j : Nat => [0, (j : Int) + 1]) →
      m (Str.ofString "vine") = some (.ref Dv) → m (Str.ofString "due") = some (.ref Dd) → m (Str.ofString "world") = some (.ref X) → m (Str.ofString "first") = some (.ref n0.x) → m (Str.ofString "many") = some (.int a ta) → m (Str.ofString "edge") = some (.int b tb) → Law w h₀ L 15 m (pre ++ (wl W ++ nl w.params 0 g μ))) :
    Law w h₀ L 12 m (pre ++ (wl W ++ nl w.params 0 g μ)) := by
  w_top off
  unfold Law
  k_fill
  intro mean mg mb dp un gd fa ccd outer A₀ base s Q E B F X' N T' hd hu ret
  have Fx' := Fx
  obtain ⟨hcs, h12, hpos, hks, hk1, hk5, hknd, e0, cC, dC, lC, cK, dK, lK, cT, dT, lT⟩ := Fx'
  show wpAny _ (ktrTop _ _ _ _ ⟨_, _, _, _, _⟩ _ _ _ _ _) (execs (_ :: _) (envX _ ⟨_, _, _, _, _⟩ _ _ _ _)) _ _ _
  dsimp only
  refine wpAny_noRaise ?_
  k_steps
  all_goals (try k_data)
  apply loop_go
  k_dflt (refine LCg.Assign_ListComp_U (F₀ := by k_asm) (by rfl) (by with_unfolding_all rfl) (by with_unfolding_all rfl) (by decide) (by rfl) (by decide) (by rfl) (by rfl) (by rfl) ?_)
  refine wpAny_mono (Q := SrcEnd _) ?_ (fun _ _ h => h) (fun _ _ h => h)
  k_steps
  all_goals (try k_data)
  apply loop_go

  refine kso_sorted (by k_asm) (by k_asm) (listAt (by k_asm) (mem_pre lK)) hks (by omega) ?_
  intro D9 vs9 ns9 c9 h9 F9 N9 l9 i9 _ p9 s9 _
  obtain rfl := gr_sorted S.gr p9 s9
  rw [vine_idx] at i9
  have hσ : ∀ i, i ∈ σ ↔ 1 ≤ i ∧ i ≤ P.ks.length := fun i => by have := S.gr.all i; rwa [vine_idx] at this
  refine src_pure (fun i y => ∃ j n, σ[i]? = some j ∧ g[j]? = some n ∧ y = .ref n.x) rfl F9 N9 (.head _) (by rw [i9.length, sizeLine_eq]; have := S.gr.size; rw [← Tr.idx_len, vine_idx] at this; simp; omega) ?hel ?fin
  case hel =>
    intro gh i v hv C oC m₂ h tk led E' hoC hx2 F' N' hC hsub
    obtain ⟨k, t, hk, rfl⟩ := ints_at i9 hv
    rw [List.getElem?_map] at hk
    obtain ⟨j, hj, rfl⟩ := Option.map_eq_some_iff.mp hk
    have hj1 := (hσ j).mp (List.mem_of_getElem? hj)
    have hgj : j < g.length := by rw [S.gr.len]; omega
    obtain ⟨hkm, hki⟩ := kOf_idx hknd hj1.1 hj1.2
    have cT' := hsub _ (.tail _ (mem_pre cT))
    have lT' := hsub _ (.tail _ (mem_pre lT))
    have cK' := hsub _ (.tail _ (mem_pre cK))
    have lK' := hsub _ (.tail _ (mem_pre lK))
    refine wpAny_mono (Q := EltEnd _ _ _ _ led (fun y => ∃ j n, σ[i]? = some j ∧ g[j]? = some n ∧ y = .ref n.x)) ?_ (fun _ _ h => h) (fun _ _ h => h)
    k_steps
    all_goals (try k_data)
    apply loop_go
    refine index_ints (by k_asm) lK' hks (by omega) hkm ?_
    rw [hki]
    k_steps
    all_goals (try k_data)
    apply loop_go
    refine item_I (v := .ref g[j].x) (by k_asm) lT' (by omega) (by omega) ?_ ?_
    · rw [show Int.toNat (1 + ((j - 1 : Nat) : Int)) = j by omega]
      exact refs_at2 (List.getElem?_eq_getElem hgj)
    · exact EltEnd.intro ⟨j, g[j], hj, List.getElem?_eq_getElem hgj, rfl⟩ (by k_asm) (by k_asm)
  case fin =>
    intro gh ys hl hys D3 h3 tk3 F3 N3 o3'
    have hlσ : ys.length = σ.length := by rw [hl, i9.length, List.length_map]
    have hR : Refs g σ ys := ⟨hlσ, fun i j hj => by
      have hi : i < ys.length := by rw [hlσ]; exact (List.getElem?_eq_some_iff.mp hj).1
      obtain ⟨j', n, e1, e2, e3⟩ := hys i _ (List.getElem?_eq_getElem hi)
      obtain rfl : j = j' := Option.some.inj (hj.symm.trans e1)
      exact ⟨n, e2, by rw [List.getElem?_eq_getElem hi, e3]⟩⟩
    have o3 := off1_mem o3'
    have N4 := news_sub (l' := ((D3, listOf ys.toArray ys.length) :: pre) ++ (wl W ++ nl w.params 0 g μ)) N3 (sub_both (.head _) fun p hp => .tail _ (.tail _ hp))
    have S4 : St w ((D3, listOf ys.toArray ys.length) :: pre) P n0 g X W μ (vine σ) := ⟨S.gr, S.wis, S.hs, S.x, S.st, S.lst, nd_cons S.nd fun q hq => o3 q (.tail _ hq)⟩
    have Fx4 : Fix L ((D3, listOf ys.toArray ys.length) :: pre) P n0 g := Fx.sub fun p hp => .tail _ hp
    have hlv : (D3, listOf ys.toArray ys.length) ∈ (D3, listOf ys.toArray ys.length) :: pre := .head _
    generalize (D3, listOf ys.toArray ys.length) :: pre = pre4 at N4 S4 Fx4 hlv
    clear N3 o3 o3'
    k_steps
    all_goals (try k_data)
    apply loop_go
    rename_i DE hE1 lE hE2 FE NE
    with_unfolding_all refine' For_invVF FE ?k1 ?k2 ?_
    case k1 => exact rfl
    case k2 => exact rfl
    k_whole
    k_steps
    all_goals (try k_data)
    apply loop_go
    refine for_list (news := (DE, listOf ([] : List Value).toArray 0) :: (pre4 ++ (wl W ++ nl w.params 0 g μ))) (fun i m nx => ∃ (Dd : Addr) (dv : List Value) (dc : Nat), nx = (Dd, listOf dv.toArray dc) :: (pre4 ++ (wl W ++ nl w.params 0 g μ)) ∧ (∀ p ∈ pre4 ++ (wl W ++ nl w.params 0 g μ), p.1 ≠ Dd) ∧ IntsAre dv ((σ.take i).flatMap fun j : Nat => [0, (j : Int) + 1]) ∧
      m (Str.ofString "due") = some (.ref Dd) ∧ m (Str.ofString "vine") = some (.ref D3) ∧ m (Str.ofString "world") = some (.ref X) ∧ m (Str.ofString "first") = some (.ref n0.x) ∧ m (Str.ofString "many") = some (.int a ta) ∧ m (Str.ofString "edge") = some (.int b tb)) rfl (.tail _ (mem_pre hlv)) (by exact FE) (by exact NE) ?hj ?turn ?done
    case hj => exact ⟨DE, [], 0, rfl, fun p hp => Nat.ne_of_lt (lE p hp), .nil, rfl, rfl, hw, hf, hm, he⟩
    case done =>
      rintro m₁ nx h tk ⟨Dd, dv, dc, rfl, hDd, hdv, z1, z2, z3, z4, z5, z6⟩ F1 N1
      dsimp only
      rw [hlσ, List.take_length] at hdv
      refine kont ((Dd, listOf dv.toArray dc) :: pre4) D3 Dd ys dv _ dc m₁ (Fx4.sub fun p hp => .tail _ hp) ⟨S4.gr, S4.wis, S4.hs, S4.x, S4.st, S4.lst, nd_cons S4.nd hDd⟩ (.tail _ hlv) hR (.head _) hdv z2 z1 z3 z4 z5 z6 _ _ _ _ _ _ _ _ _ _ _ _ _ _ B (by exact F1) X' (by exact N1) T' hd hu ?_
      exact fun h tk m' F => ret h tk m' F
    case turn =>
      rintro i v m₁ nx I oI ol h tk hi ⟨Dd, dv, dc, rfl, hDd, hdv, z1, z2, z3, z4, z5, z6⟩ hI hIl F1 N1
      obtain ⟨j, n, hj, hgj, rfl⟩ := refs_at hR hi
      obtain rfl : ol = listOf ys.toArray ys.length := news_same N1 (.tail _ (.head _)) (.tail _ (.tail _ (.tail _ (mem_pre hlv))))
      have N2 := news_sub (l' := (I, oI) :: (Dd, listOf dv.toArray dc) :: (pre4 ++ (wl W ++ nl w.params 0 g μ))) N1 (sub_both (.head _) fun p hp => .tail _ (.tail _ hp))
      have N3 : News h₀ L h ((I, oI) :: (Dd, listOf dv.toArray dc) :: (pre4 ++ (wl W ++ nl w.params 0 g μ))) := N2
      have F3 : Fr h₀ L h _ := F1
      clear N2 F1 N1
      have h0 : 0 + j = j := Nat.zero_add j
      have hmm : ∀ {p : Addr × Obj}, p ∈ nl w.params 0 g μ → p ∈ (I, oI) :: (Dd, listOf dv.toArray dc) :: (pre4 ++ (wl W ++ nl w.params 0 g μ)) := fun hp => .tail _ (.tail _ (List.mem_append.mpr (.inr (List.mem_append.mpr (.inr hp)))))
      have hi2 := hmm (mem_nl (p := (n.x, instObj 225 n.dx)) (i := 0) hgj (.head _))
      have hd2 := hmm (mem_nl (p := (n.dx, ndDict w.params n (μ j).mkv)) (i := 0) hgj (by rw [h0]; exact .tail _ (.head _)))
      have hz : dv.length + 2 ≤ sizeLine := by
        have h2 := hdv.length
        rw [flat_len (f := fun _ => 0) (h := fun j : Nat => (j : Int) + 1)] at h2
        have h3 := (List.getElem?_eq_some_iff.mp hj).1
        have h4 : σ.length = P.ks.length := by have := S.gr.size; rwa [← Tr.idx_len, vine_idx] at this
        rw [sizeLine_eq]
        have h5 : (List.take i σ).length ≤ σ.length := by rw [List.length_take]; omega
        omega
      have hnum := S.gr.num j n hgj
      clear Fx S Fx4 S4
      k_steps
      all_goals (try k_data)
      rename_i LE hA lLE DF hB lDF hC FF NF
      refine LEnd.intro (by exact FF) (by exact news_sub NF (sub_both (.tail _ (.tail _ (.head _))) (sub_both (.tail _ (.tail _ (.tail _ (.tail _ (mem_pre hlv))))) (sub_both (.head _) fun p hp => .tail _ (.tail _ (.tail _ (.tail _ hp))))))) ?hI ⟨DF, _, _, rfl, fun p hp => Nat.ne_of_lt (ktn_ltOf lDF.2.2.2 p hp), ?hi, rfl, ?_, ?_, ?_, ?_, ?_⟩
      case hI =>
        intro q hq
        rcases List.mem_cons.mp hq with rfl | hq
        · exact Ne.symm (Nat.ne_of_lt lDF.2.1)
        · exact hI q (.tail _ hq)
      case hi =>
        rw [List.take_add_one, hj, List.flatMap_append]
        exact intsAre_app hdv (.cons _ _ (by rw [hnum]; exact .cons _ _ .nil))
      · exact z2
      · exact z3
      · exact z4
      · exact z5
      · exact z6

/-! the last check -/
theorem law_check {w : World} {h₀ : Heap} {L : Addr} {pre : Led} {P : Pl} {n0 : Nd} {g : List Nd} {X Dv Dd : Addr} {W : Wo} {μ : Nat → Mu} {σ : List Nat} {ys dv : List Value} {vc dc : Nat} {m : Str → Option Value} {a b : Int} {ta tb : Nat} (Fx : Fix L pre P n0 g) (S : St w pre P n0 g X W μ (vine σ)) (hlv : (Dv, listOf ys.toArray vc) ∈ pre) (hR : Refs g σ ys) (hld : (Dd, listOf dv.toArray dc) ∈ pre)
    (hdv : IntsAre dv (σ.flatMap fun j : Nat => [0, (j : Int) + 1])) (hv : m (Str.ofString "vine") = some (.ref Dv)) (hdu : m (Str.ofString "due") = some (.ref Dd)) (hw : m (Str.ofString "world") = some (.ref X)) (hf : m (Str.ofString "first") = some (.ref n0.x))
    (hm : m (Str.ofString "many") = some (.int a ta)) (he : m (Str.ofString "edge") = some (.int b tb)) (hab : a = (P.ks.length : Int) - b)
    (kont : ∀ (W : Wo) (μ : Nat → Mu), St w pre P n0 g X W μ (vine σ) → Law w h₀ L 16 m (pre ++ (wl W ++ nl w.params 0 g μ))) :
    Law w h₀ L 15 m (pre ++ (wl W ++ nl w.params 0 g μ)) := by
  w_top off
  unfold Law
  k_fill
  intro mean mg mb dp un gd fa ccd outer A₀ base s Q E B F X' N T' hd hu ret
  have Fx' := Fx
  obtain ⟨hcs, h12, hpos, hks, hk1, hk5, hknd, e0, cC, dC, lC, cK, dK, lK, cT, dT, lT⟩ := Fx'
  have hσ : σ.length = P.ks.length := by have := S.gr.size; rwa [← Tr.idx_len, vine_idx] at this
  have hyl : ys.length = σ.length := hR.1
  have hkl : P.kvs.length = P.ks.length := hks.length
  show wpAny _ (ktrTop _ _ _ _ ⟨_, _, _, _, _⟩ _ _ _ _ _) (execs (_ :: _) (envX _ ⟨_, _, _, _, _⟩ _ _ _ _)) _ _ _
  dsimp only
  k_steps
  all_goals (try k_data)
  apply loop_go
  subst hab
  refine len_L (n := (P.ks.length : Int)) N (mem_pre lK) (by rw [hkl]) (by omega) ?_
  have hz1 : [Value.ref n0.x].length + ys.length ≤ sizeLine := by rw [sizeLine_eq]; simp only [List.length_cons, List.length_nil]; omega
  have hdl : dv.length = 2 * σ.length := by rw [hdv.length, flat_len (f := fun _ => 0) (h := fun j : Nat => (j : Int) + 1)]
  have hz2 : dv.length + 2 ≤ sizeLine := by rw [sizeLine_eq]; omega
  have hsep : Sep g := sep_of (A := pre ++ wl W) (by rw [List.append_assoc]; exact S.nd)
  have hnl : ∀ p ∈ nl w.params 0 g μ, p ∈ pre ++ (wl W ++ nl w.params 0 g μ) := fun p hp => List.mem_append.mpr (.inr (List.mem_append.mpr (.inr hp)))
  k_steps
  all_goals (try k_data)
  all_goals (try (rename (_ : Int) ≠ _ => hne; exact absurd rfl hne))
  apply loop_go
  rename_i Dv2 hA lA FA NA
  have hR2 : Refs g (0 :: σ) ([Value.ref n0.x] ++ ys) := ⟨by simp [hyl], fun i j hj => by
    cases i with
    | zero => obtain rfl := Option.some.inj hj; exact ⟨n0, e0, rfl⟩
    | succ i => exact hR.2 i j hj⟩
  refine call_use2 (C := lks_call S.gr (sub_cons (sub_cons hnl)) (.head _) hR2 (by simp; omega) fun i hi => ?_) (ret := ?_)
  · rcases List.mem_cons.mp hi with rfl | hi
    · have := S.gr.len; omega
    · have := (S.gr.all i).mp (by rw [vine_idx]; exact hi); have := S.gr.len; omega
  k_whole
  rintro r6 n6 h6 tk6 ⟨D6, ys6, c6, rfl, hy6, o6, rfl⟩ F6 N6
  rw [vine_links hsep S.gr] at hy6
  k_steps
  all_goals (try k_data)
  apply loop_go
  rename_i LZ hB FB NB lLZ DZ hC FC NC lDZ
  refine ne_intsK (listAt NC (.tail _ (.tail _ (.head _)))) hy6 (listAt NC (.head _)) (intsAre_app hdv (.cons _ _ (.cons _ _ .nil))) (by ktr_units) ?_
  simp only [decide_true, Bool.not_true]
  have N10 := news_sub (l' := pre ++ (wl W ++ nl w.params 0 g μ)) NC fun p hp => .tail _ (.tail _ (.tail _ (.tail _ (.tail _ hp))))
  clear NC NB NA
  k_steps
  all_goals (try k_data)
  apply loop_go
  rename_i Rx h11 F11 N11 l11
  refine call_use2 (C := coll_use S e0 hk5 fun p hp => Nat.ne_of_lt (l11 p hp)) (ret := ?_)
  k_whole
  rintro r12 n12 h12' tk12 ⟨D12, c12, W', μ', rfl, o12, rfl, S'⟩ F12 N12
  k_steps
  all_goals (try k_data)
  apply loop_go
  refine ne_intsK (listAt (by k_asm) (.tail _ (.head _))) .nil (listAt (by k_asm) (.head _)) .nil (by ktr_units) ?_
  simp only [decide_true, Bool.not_true]
  repeat' ((fail_if_success (with_reducible show wpAny _ _ (execs (_ :: _) _) _ _ _)); (first | (k_unfold; (try dsimp only)) | (k_end; wrow_close) | walk1 | (dsimp only; walk1)))
  all_goals (try k_data)
  refine kont W' μ' S' _ _ _ _ _ _ _ _ _ _ _ _ _ _ B (by k_asm) X' (by exact news_sub (by k_asm) fun p hp => .tail _ (.tail _ hp)) T' hd hu ?_
  exact fun h tk m' F => ret h tk m' F

/-! the cut -/
theorem gr_bearsP {g : List Nd} {μ μ' : Nat → Mu} {T : Tr} {kf : Nat → Int} {n : Nat} (G : Gr g μ T kf n) (h : ∀ j, (μ' j).k = (μ j).k) : ∀ j, j < g.length → ∃ o, Bears g μ' (μ' j).k o ∧ oi o = [] ∧ ow o = 1 := by
  intro j hj
  have hgl := G.len
  rw [h]
  by_cases h0 : j = 0
  · subst h0
    obtain ⟨t, h⟩ := G.k0
    exact ⟨some .nil, by rw [h]; exact .tree .nil, rfl, rfl⟩
  · obtain ⟨t, h⟩ := G.key j (by omega) (by omega)
    exact ⟨none, by rw [h]; exact .int, rfl, rfl⟩
theorem law_cut {w : World} {h₀ : Heap} {L : Addr} {pre : Led} {P : Pl} {n0 : Nd} {g : List Nd} {X Dv : Addr} {W : Wo} {μ : Nat → Mu} {σ : List Nat} {ys : List Value} {vc : Nat} {m : Str → Option Value} (Fx : Fix L pre P n0 g) (S : St w pre P n0 g X W μ (vine σ)) (hlv : (Dv, listOf ys.toArray vc) ∈ pre) (hR : Refs g σ ys)
    (hv : m (Str.ofString "vine") = some (.ref Dv)) (hw : m (Str.ofString "world") = some (.ref X)) (hf : m (Str.ofString "first") = some (.ref n0.x)) :
    Law w h₀ L 16 m (pre ++ (wl W ++ nl w.params 0 g μ)) := by
  w_top off
  unfold Law
  k_fill
  intro mean mg mb dp un gd fa ccd outer A₀ base s Q E B F X' N T' hd hu ret
  have Fx' := Fx
  obtain ⟨hcs, h12, hpos, hks, hk1, hk5, hknd, e0, cC, dC, lC, cK, dK, lK, cT, dT, lT⟩ := Fx'
  have hσ : σ.length = P.ks.length := by have := S.gr.size; rwa [← Tr.idx_len, vine_idx] at this
  have hyl : ys.length = σ.length := hR.1
  have hkl : P.kvs.length = P.ks.length := hks.length
  obtain ⟨o, hst, hod⟩ := S.st
  obtain rfl := S.x
  show wpAny _ (ktrTop _ _ _ _ ⟨_, _, _, _, _⟩ _ _ _ _ _) (execs (_ :: _) (envX _ ⟨_, _, _, _, _⟩ _ _ _ _)) _ _ _
  dsimp only
  k_steps
  all_goals (try k_data)
  apply loop_go
  obtain ⟨c10, t10, hc10⟩ : ∃ k t, P.vs[10]? = some (Value.int k t) := by
    have hl : 10 < P.vs.length := by rw [hcs.length, h12]; decide
    obtain ⟨k, t, _, e⟩ := ints_at hcs (List.getElem?_eq_getElem hl)
    exact ⟨k, t, by rw [List.getElem?_eq_getElem hl, e]⟩
  refine item_I N (mem_pre lC) (by decide) (by decide) hc10 ?_
  k_steps
  all_goals (try k_data)
  apply loop_go
  refine len_L (n := (P.ks.length : Int)) N (mem_pre lK) (by rw [hkl]) (by omega) ?_
  have hcb : 0 ≤ c10.fmod (P.ks.length : Int) ∧ c10.fmod (P.ks.length : Int) < P.ks.length := by
    rw [Int.fmod_eq_emod_of_nonneg _ (by omega)]
    exact ⟨Int.emod_nonneg _ (by omega), Int.emod_lt_of_pos _ (by omega)⟩
  k_steps
  all_goals (try k_data)
  apply loop_go
  obtain ⟨c, hc⟩ := Int.eq_ofNat_of_zero_le hcb.1
  have hcl : c < σ.length := by omega
  obtain ⟨j, hj⟩ : ∃ j, σ[c]? = some j := ⟨_, List.getElem?_eq_getElem hcl⟩
  obtain ⟨nj, hgj, hyj⟩ := hR.2 c j hj
  have hj1 := (S.gr.all j).mp (by rw [vine_idx]; exact List.mem_of_getElem? hj)
  have hsep : Sep g := sep_of (A := pre ++ wl W) (by rw [List.append_assoc]; exact S.nd)
  have hgl := S.gr.len
  refine item_I (v := .ref nj.x) (by k_asm) (mem_pre hlv) hcb.1 (by omega) (by rw [hc]; exact hyj) ?_
  k_steps
  all_goals (try k_data)
  apply loop_go
  refine call_use2 (C := put_val (f := .R) (g := g) (μ := μ) (i := j) rfl hsep hgj (chg_law S.nd)) (ret := ?_)
  k_whole
  rintro r5 n5 h5 tk5 ⟨rfl, rfl⟩ F5 N5
  k_steps
  all_goals (try k_data)
  apply loop_go
  rename_i Rx hA FA NA lA
  have hndA : ND (((Rx, listOf ([] : List Value).toArray 0) :: pre) ++ (wl W ++ nl w.params 0 g (put μ j .R (.str (Str.ofString "") (tk + 1))))) := nd_cons (S.nd.same (by simp [nl_addr])) fun q hq => Nat.ne_of_lt (lA q hq)
  have hσn : σ.Nodup := by have := S.gr.nd; rwa [vine_idx] at this
  have hix : (Tr.node .nil 0 (vine (σ.take (c + 1)))).idx = 0 :: σ.take (c + 1) := by simp [Tr.idx, vine_idx]
  refine call_use2 (C := collect_call (g := g) (pre := (Rx, listOf ([] : List Value).toArray 0) :: pre) (T := .node .nil 0 (vine (σ.take (c + 1)))) (o := o) (n0 := n0) S.wis hndA S.hs (by omega) (fun f => .tail _ (List.mem_append.mpr (.inr (List.mem_append.mpr (.inl (.tail _ (.tail _ (.tail _ hst)))))))) hod S.lst (fun f => .head _) (vine_cut S.gr e0 hj) ?hnd ?hz ?hk S.gr.num) (ret := ?_)
  case hnd =>
    rw [hix]
    refine List.nodup_cons.mpr ⟨fun h => ?_, hσn.sublist (List.take_sublist _ _)⟩
    have := (S.gr.all 0).mp (by rw [vine_idx]; exact List.mem_of_mem_take h)
    omega
  case hz =>
    rw [← Tr.idx_len, hix, List.length_cons, List.length_take]
    omega
  case hk => exact fun j' hj' => gr_bearsP S.gr (fun x => put_k (by simp)) j' (isT_inj (vine_cut (t := 0) S.gr e0 hj) j' hj')
  k_whole
  rintro r6 n6 h6 tk6 ⟨D6, Dh, es, n1, c6, ch, vs6, f, rfl, hv6, hw6, rfl, hnd6⟩ F6 N6
  have N7 := news_sub (l' := (D6, listOf vs6.toArray c6) :: (pre ++ nl w.params 0 g (mks (put μ j .R (.str (Str.ofString "") (tk + 1))) f))) N6 (sub_both (.head _) fun p hp => .tail _ (.tail _ (by
    rcases List.mem_append.mp hp with hp | hp
    · exact List.mem_append.mpr (.inl hp)
    · exact List.mem_append.mpr (.inr (List.mem_append.mpr (.inr hp))))))
  clear N6 NA lA
  have h0b : 0 ≤ c10.fmod (P.ks.length : Int) + 1 := by omega
  have hz3 : ys.length ≤ sizeLine := by rw [sizeLine_eq]; omega
  have hdr : (c10.fmod (P.ks.length : Int) + 1).toNat = c + 1 := by omega
  k_steps
  all_goals (try k_data)
  apply loop_go
  k_dflt (refine LCg.ListComp_U (F₀ := by k_asm) (by with_unfolding_all rfl) (by decide) (by rfl) (by decide) (by rfl) ?_)
  refine wpAny_mono (Q := SrcEnd _) ?_ (fun _ _ h => h) (fun _ _ h => h)
  k_steps
  all_goals (try k_data)
  rename_i DS hS FS NS lS
  refine src_pure (fun i y => ∃ (j' : Nat) (t : Nat), (σ.drop (c + 1))[i]? = some j' ∧ y = Value.int ((j' : Int) + 1) t) rfl FS NS (.head _) (by rw [sizeLine_eq, List.length_drop]; omega) ?hel ?fin
  case hel =>
    intro gh i v hv C oC m₂ h tk led E' hoC hx2 F' N' hC hsub
    rw [hdr, List.getElem?_drop] at hv
    obtain ⟨j', n', hj', hgj', rfl⟩ := refs_at hR hv
    have h0 : 0 + j' = j' := Nat.zero_add j'
    have hmm : ∀ {p : Addr × Obj}, p ∈ nl w.params 0 g (mks (put μ j .R (.str (Str.ofString "") _)) f) → p ∈ led := fun hp => hsub _ (.tail _ (.tail _ (List.mem_append.mpr (.inr hp))))
    have hi2 := hmm (mem_nl (p := (n'.x, instObj 225 n'.dx)) (i := 0) hgj' (.head _))
    have hd2 := hmm (mem_nl (p := (n'.dx, ndDict w.params n' (f j'))) (i := 0) hgj' (by rw [h0]; exact .tail _ (.head _)))
    refine wpAny_mono (Q := EltEnd _ _ _ _ led (fun y => ∃ (j' : Nat) (t : Nat), (σ.drop (c + 1))[i]? = some j' ∧ y = Value.int ((j' : Int) + 1) t)) ?_ (fun _ _ h => h) (fun _ _ h => h)
    k_steps
    exact EltEnd.intro ⟨j', _, by rw [List.getElem?_drop]; exact hj', congrArg (fun z => Value.int z _) (S.gr.num _ _ hgj')⟩ (by k_asm) (by k_asm)
  case fin =>
    intro gh zs hl hzs D3 h3 tk3 F3 N3 o3'
    have hzi : IntsAre zs ((σ.drop (c + 1)).map fun i : Nat => (i : Int) + 1) := kdy_ints (by rw [hl, hdr, List.length_map, List.length_drop, List.length_drop, hyl]) fun i v hv => by
      obtain ⟨j', t, e1, rfl⟩ := hzs i v hv
      exact ⟨_, by rw [List.getElem?_map, e1]; rfl, t, rfl⟩
    k_steps
    all_goals (try k_data)
    apply loop_go
    refine kso_sorted F3 N3 (listAt N3 (.head _)) hzi (by rw [List.length_map, List.length_drop]; omega) ?_
    intro D9 vs9 ns9 c9 h9 F9 N9 l9 i9 _ p9 s9 _
    rw [gone_eq S.gr hj p9 s9] at hv6
    k_steps
    all_goals (try k_data)
    apply loop_go
    refine eq_intsK (listAt N9 (.tail _ (.tail _ (.tail _ (.head _))))) hv6 (listAt N9 (.head _)) i9 (by ktr_units) ?_
    simp only [decide_true]
    k_steps
    all_goals (try k_data)
    exact ret _ _ _ F9

theorem law_all {w : World} {h₀ : Heap} {L l : Addr} {o1 o2 o3 : Obj} {lits : List Value} {ns : List Int} {m₀ : Str → Option Value} (hsc : m₀ (Str.ofString "script") = some (.ref l)) (d1 : o1.data = .cell none) (d2 : o2.data = .cell none) (d3 : o3.data = .cell none) (hL : h₀.IsList l lits.toArray) (hI : IntsAre lits ns) (hn : ns.length ≤ 63) :
    LawTop w h₀ L m₀ [(L + 1 + 1 + 1, o3), (L + 1 + 1, o2), (L + 1, o1)] := by
  refine law_cells hsc d1 hL hI hn ?_
  intro Dc vs cs o1' m hcs h12 hpos d1' lc
  refine law_world lc ?_
  intro W n0 μ o m S hnd hw hf
  refine law_keys hcs h12 hpos d1' d2 d3 S hnd hw hf ?_
  intro pre P n0 g X W μ T m Fx S hw hf
  refine law_for Fx S hw hf ?_
  intro pre W μ T m Fx S hw hf
  refine law_edges Fx S hw hf ?_
  intro μ σ m a b ta tb S hw hf hm he hab
  refine law_vine Fx S hw hf hm he ?_
  intro pre Dv Dd ys dv vc dc m Fx S hlv hR hld hdv hv hdu hw hf hm he
  refine law_check Fx S hlv hR hld hdv hv hdu hw hf hm he hab ?_
  intro W μ S
  exact law_cut Fx S hlv hR hv hw hf

end Mine
set_option maxRecDepth 100000 in
set_option maxHeartbeats 8000000 in
theorem PySem.Challenge.cw_sj0191_01_holds : PySem.Challenge.rw_sj0191_01.Holds := by
  refine Mine.hd ?_
  k_go0
  all_goals (try k_fold)
  rename_i hL0 ra0 w10 r00 hI0 hr0 hc1 hc2 K0 hD0 h1 tk1 F0 x3 x2 x1 d3 d2 d1 N0 X0
  refine' (Mine.law_all ?hsc ?d1 ?d2 ?d3 hL0 hI0 ?hn) _ _ _ _ _ _ _ _ _ _ _ _ _ _ ?K ?F ?X ?N ?T ?hd ?hu ?ret _ ?ht
  case K => exact K0
  case F => exact F0
  case N => exact N0
  case hsc => exact rfl
  case d1 => exact d1
  case d2 => exact d2
  case d3 => exact d3
  case hn => omega
  case X => assumption
  case T => assumption
  case ht => exact rfl
  case hd => decide
  case hu => decide
  case ret =>
    intro h tk m' F
    k_unfold
    dsimp only
    wrow_close
