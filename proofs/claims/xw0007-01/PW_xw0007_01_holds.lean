import PyProof.Rows.All
import Wide.All
import OpenK.AllK
import Wide.FinOn
import Lean
import PySem.Challenge.RW_xw0007_01
open PySem PySem.W PyProof.Rows PySem.Calls
set_option Elab.async false
set_option linter.all false
set_option compiler.extract_closed false
set_option maxRecDepth 100000
set_option maxHeartbeats 8000000
namespace Mine
namespace hd
/-- the program -/
abbrev hp : Program := PySem.Challenge.rw_xw0007_01.row.toRowW.1
/-- a dict's entry at a str -/
noncomputable def kv (P : Params) (s : Str) (n : Nat) (v : Value) : DictEntry := ⟨PyData.keyHash P s, .str s n, v⟩
noncomputable def inner : Stmt → List Stmt
  | .ClassDef _ _ _ b _ _ _ _ _ _ _ => b
  | _ => []
noncomputable def fnParts : Stmt → Option (Arguments × FuncBody × Scope)
  | .FunctionDef _ a b _ _ _ s _ _ _ => some (a, .stmts b, s)
  | _ => none
/-- the def of the program's text at a place -/
noncomputable def defAt : List Nat → Option (Arguments × FuncBody × Scope)
  | [i] => (hp.main.body[i]?).bind fnParts
  | [i, j] => (hp.main.body[i]?).bind fun c => ((inner c)[j]?).bind fnParts
  | _ => none
noncomputable def objParts (o : Obj) : Option (Arguments × FuncBody × Scope) := match o.data with
  | .func f => some (f.params, f.body, f.scope)
  | _ => none
/-- an object that bears the def at that place -/
abbrev FO (l : List Nat) := {o : Params → Obj // ∀ P, objParts (o P) = defAt l}
noncomputable def n (o : Params → Obj) (l r : Params → BT) (P : Params) : BT := .node (o P) (l P) (r P)
noncomputable def z (_ : Params) : BT := .nil
noncomputable def f (o : Params → Obj) (P : Params) : BT := .node (o P) .nil .nil
noncomputable def o43 (P : Params) : Obj := ⟨.type "tuple", none, .seq #[] 0, #[]⟩
noncomputable def o45 (P : Params) : Obj := ⟨.type "code", none, .fields #[.str "<module>" 182, .str "<module>" 183, .str "/claim/cut.py" 184, .int 1 0, .int 0 0, .int 0 0, .int 0 0, .int 0 0, .ref 11, .bool false, .int 181 0, .ref 12, .none, .none, .none, .none, .int 185 0, .int 1 0, .str "/claim/cut.py" 186], #[]⟩
noncomputable def o44 (P : Params) : Obj := ⟨.none, none, .fields #[], #[]⟩
noncomputable def o46 (P : Params) : Obj := ⟨.type "frame", none, .plain, #[(some (.ref 13)), (some (.ref 3)), (some (.ref 3)), none, (some (.str "__main__" 164)), none, (some (.ref 0))]⟩
noncomputable def o185 (P : Params) : Obj := ⟨.type "dict", none, .dict #[kv P "__name__" 165 (.str "adacore.arrays" 416), kv P "__doc__" 166 .none, kv P "__package__" 167 .none, kv P "__loader__" 168 (.builtin "__main__.__loader__#opaque"), kv P "__spec__" 169 .none, kv P "__annotations__" 170 (.ref 6), kv P "__builtins__" 171 (.ref 4), kv P "__file__" 173 (.str "/claim/cut.py" 172), kv P "__cached__" 174 .none, kv P "AdaError" 217 (.ref 31), kv P "CheckFault" 243 (.ref 51), kv P "AdaRaise" 272 (.ref 70), kv P "Unset" 302 (.ref 89), kv P "Cell" 334 (.ref 110), kv P "ArrayValue" 365 (.ref 131), kv P "RecordValue" 396 (.ref 152), kv P "need_set" 403 (.ref 163), kv P "copy_value" 409 (.ref 168), kv P "lengths_of" 415 (.ref 173), kv P "OTHERS" 419 (.str "others" 418), kv P "raise_constraint" 426 (.ref 180), kv P "dim_length" 434 (.ref 187)] 22, #[]⟩
noncomputable def o52 (P : Params) : Obj := ⟨.type "tuple", none, .seq #[.type "Exception"] 0, #[]⟩
noncomputable def o96 (P : Params) : Obj := ⟨.type "type", none, .cls ⟨"AdaError", [.type "Exception"], [.ref 31, .type "Exception", .type "BaseException", .type "object"], 30, "AdaError", true, [], [.ref 51, .ref 70], false, none, false⟩, #[(some (.ref 15)), none, (some (.str "AdaError" 189)), (some (.str "AdaError" 197)), (some (.builtin "Exception.__new__")), (some (.bool true))]⟩
noncomputable def o106 (P : Params) : Obj := ⟨.type "tuple", none, .seq #[.str "self" 259, .str "name" 260, .str "line" 261, .str "text" 262] 0, #[]⟩
noncomputable def o176 (P : Params) : Obj := ⟨.type "code", none, .fields #[.str "__init__" 347, .str "ArrayValue.__init__" 348, .str "/claim/cut.py" 349, .int 32 0, .int 3 0, .int 0 0, .int 0 0, .int 3 0, .ref 122, .bool true, .int 181 0, .ref 123, .none, .ref 124, .ref 125, .ref 126, .int 353 0, .int 32 0, .str "/claim/cut.py" 354], #[]⟩
noncomputable def o142 (P : Params) : Obj := ⟨.type "builtin_function_or_method", none, .fields #[.builtin "type.__prepare__", .type "type"], #[]⟩
noncomputable def o210 (P : Params) : Obj := ⟨.type "tuple", none, .seq #[.str "value" 400] 0, #[]⟩
noncomputable def o87 (P : Params) : Obj := ⟨.type "code", none, .fields #[.str "__init__" 230, .str "CheckFault.__init__" 231, .str "/claim/cut.py" 232, .int 9 0, .int 3 0, .int 0 0, .int 0 0, .int 3 0, .ref 42, .bool true, .int 181 0, .ref 43, .none, .ref 44, .ref 45, .ref 46, .int 236 0, .int 9 0, .str "/claim/cut.py" 237], #[]⟩
noncomputable def o124 (P : Params) : Obj := ⟨.type "frame", none, .plain, #[(some (.ref 78)), (some (.ref 3)), (some (.ref 75)), none, (some (.str "adacore.values" 273)), none, (some (.ref 0))]⟩
noncomputable def o194 (P : Params) : Obj := ⟨.type "tuple", none, .seq #[] 0, #[]⟩
noncomputable def o158 (P : Params) : Obj := ⟨.type "getset_descriptor", none, .fields #[.str "__dict__" 328, .ref 110, .builtin "function.__dict__", .builtin "function.__dict__#set"], #[]⟩
noncomputable def o226 (P : Params) : Obj := ⟨.none, none, .fields #[], #[]⟩
noncomputable def o60 (P : Params) : Obj := ⟨.none, none, .fields #[], #[]⟩
noncomputable def o79 (P : Params) : Obj := ⟨.none, none, .fields #[.int 9 0, .int 4 0, .ref 47], #[]⟩
noncomputable def o114 (P : Params) : Obj := ⟨.type "super", none, .fields #[.ref 70, .ref 70, .ref 70], #[]⟩
noncomputable def o184 (P : Params) : Obj := ⟨.type "builtin_function_or_method", none, .fields #[.builtin "object.__init_subclass__", .ref 131], #[]⟩
noncomputable def o150 (P : Params) : Obj := ⟨.type "tuple", none, .seq #[.str "self" 318, .str "value" 319, .str "number" 320] 0, #[]⟩
noncomputable def o218 (P : Params) : Obj := ⟨.type "code", none, .fields #[.str "copy_value" 404, .str "copy_value" 405, .str "/claim/cut.py" 406, .int 44 0, .int 1 0, .int 0 0, .int 0 0, .int 3 0, .ref 164, .bool true, .int 181 0, .ref 165, .none, .none, .none, .ref 166, .int 407 0, .int 44 0, .str "/claim/cut.py" 408], #[]⟩
noncomputable def o98 (P : Params) : Obj := ⟨.type "builtin_function_or_method", none, .fields #[.builtin "type.__prepare__", .type "type"], #[]⟩
noncomputable def o132 (P : Params) : Obj := ⟨.type "tuple", none, .seq #[.str "text" 294] 0, #[]⟩
noncomputable def o202 (P : Params) : Obj := ⟨.type "dict", none, .dict #[kv P "__module__" 373 (.str "adacore.values" 273), kv P "__firstlineno__" 377 (.int 35 376), kv P "__init__" 386 (.ref 149), kv P "__static_attributes__" 389 (.ref 150), kv P "__dict__" 391 (.ref 153), kv P "__weakref__" 393 (.ref 154), kv P "__doc__" 394 .none] 4, #[]⟩
noncomputable def o168 (P : Params) : Obj := ⟨.none, none, .fields #[.int 32 0, .int 4 0, .ref 127], #[]⟩
noncomputable def o234 (P : Params) : Obj := ⟨.type "tuple", none, .seq #[.str "low" 430, .str "high" 431] 0, #[]⟩
noncomputable def o56 (P : Params) : Obj := ⟨.none, none, .fields #[.int 4 0, .int 4 0, .ref 27], #[]⟩
noncomputable def o75 (P : Params) : Obj := ⟨.type "tuple", none, .seq #[.ref 31] 0, #[]⟩
noncomputable def o110 : FO [3, 0] := ⟨fun P => ⟨.type "function", none, .func ⟨"__init__", "AdaRaise.__init__", _, .stmts _, _, 3, [], .none, .none, .none, .str "adacore.errors" 187, none, .ref 66, .none, 0⟩, #[]⟩, fun _ => rfl⟩
noncomputable def o180 (P : Params) : Obj := ⟨.type "type", none, .cls ⟨"ArrayValue", [.type "object"], [.ref 131, .type "object"], 130, "ArrayValue", true, [], [], false, none, false⟩, #[none, none, (some (.str "ArrayValue" 335)), (some (.str "ArrayValue" 343)), (some (.builtin "object.__new__")), (some (.bool true))]⟩
noncomputable def o146 (P : Params) : Obj := ⟨.type "code", none, .fields #[.str "Cell" 305, .str "Cell" 306, .str "/claim/cut.py" 307, .int 24 0, .int 0 0, .int 0 0, .int 0 0, .int 0 0, .ref 97, .bool false, .int 181 0, .ref 98, .none, .none, .none, .none, .int 308 0, .int 24 0, .str "/claim/cut.py" 309], #[]⟩
noncomputable def o214 : FO [9] := ⟨fun P => ⟨.type "function", none, .func ⟨"need_set", "need_set", _, .stmts _, _, 3, [], .none, .none, .none, .str "adacore.values" 273, none, .ref 162, .none, 0⟩, #[]⟩, fun _ => rfl⟩
noncomputable def o91 (P : Params) : Obj := ⟨.type "type", none, .cls ⟨"CheckFault", [.ref 31], [.ref 51, .ref 31, .type "Exception", .type "BaseException", .type "object"], 50, "CheckFault", true, [], [], false, none, false⟩, #[(some (.ref 35)), none, (some (.str "CheckFault" 218)), (some (.str "CheckFault" 226)), (some (.builtin "Exception.__new__")), (some (.bool true))]⟩
noncomputable def o128 (P : Params) : Obj := ⟨.type "tuple", none, .seq #[] 0, #[]⟩
noncomputable def o198 : FO [8, 0] := ⟨fun P => ⟨.none, none, .func ⟨"__init__", "RecordValue.__init__", _, .stmts _, _, 0, [], .none, .none, .none, .none, none, .none, .none, 0⟩, #[]⟩, fun _ => rfl⟩
noncomputable def o164 (P : Params) : Obj := ⟨.type "tuple", none, .seq #[] 0, #[]⟩
noncomputable def o230 (P : Params) : Obj := ⟨.type "code", none, .fields #[.str "raise_constraint" 420, .str "raise_constraint" 421, .str "/claim/cut.py" 422, .int 57 0, .int 1 0, .int 0 0, .int 0 0, .int 3 0, .ref 174, .bool true, .int 181 0, .ref 175, .none, .ref 176, .ref 177, .ref 178, .int 424 0, .int 57 0, .str "/claim/cut.py" 425], #[]⟩
noncomputable def o64 (P : Params) : Obj := ⟨.type "code", none, .fields #[.str "__init__" 201, .str "AdaError.__init__" 202, .str "/claim/cut.py" 203, .int 4 0, .int 2 0, .int 0 0, .int 0 0, .int 3 0, .ref 22, .bool true, .int 181 0, .ref 23, .none, .ref 24, .ref 25, .ref 26, .int 206 0, .int 4 0, .str "/claim/cut.py" 207], #[]⟩
noncomputable def o83 (P : Params) : Obj := ⟨.none, none, .fields #[], #[]⟩
noncomputable def o120 (P : Params) : Obj := ⟨.type "dict", none, .dict #[kv P "__module__" 282 (.str "adacore.values" 273), kv P "__qualname__" 284 (.str "Unset" 283), kv P "__firstlineno__" 286 (.int 20 285), kv P "__init__" 293 (.ref 86), kv P "__static_attributes__" 295 (.ref 87)] 5, #[]⟩
noncomputable def o190 (P : Params) : Obj := ⟨.type "tuple", none, .seq #[] 0, #[]⟩
noncomputable def o154 : FO [6, 0] := ⟨fun P => ⟨.type "function", none, .func ⟨"__init__", "Cell.__init__", _, .stmts _, _, 3, [], .none, .none, .none, .str "adacore.values" 273, none, .ref 106, .none, 0⟩, #[]⟩, fun _ => rfl⟩
noncomputable def o222 : FO [11] := ⟨fun P => ⟨.none, none, .func ⟨"lengths_of", "lengths_of", _, .stmts _, _, 0, [], .none, .none, .none, .none, none, .none, .none, 0⟩, #[]⟩, fun _ => rfl⟩
noncomputable def o102 (P : Params) : Obj := ⟨.type "code", none, .fields #[.str "AdaRaise" 246, .str "AdaRaise" 247, .str "/claim/cut.py" 248, .int 12 0, .int 0 0, .int 0 0, .int 0 0, .int 0 0, .ref 57, .bool false, .int 181 0, .ref 58, .none, .none, .none, .none, .int 249 0, .int 12 0, .str "/claim/cut.py" 250], #[]⟩
noncomputable def o136 (P : Params) : Obj := ⟨.type "getset_descriptor", none, .fields #[.str "__weakref__" 298, .ref 89, .builtin "ExceptionGroup.__weakref__", .none], #[]⟩
noncomputable def o206 (P : Params) : Obj := ⟨.type "super", none, .fields #[.ref 152, .ref 152, .ref 152], #[]⟩
noncomputable def o172 (P : Params) : Obj := ⟨.none, none, .fields #[], #[]⟩
noncomputable def o238 : FO [15] := ⟨fun P => ⟨.type "function", none, .func ⟨"dim_length", "dim_length", _, .stmts _, _, 3, [], .none, .none, .none, .str "adacore.arrays" 416, none, .ref 186, .none, 0⟩, #[]⟩, fun _ => rfl⟩
noncomputable def o54 (P : Params) : Obj := ⟨.type "dict", none, .dict #[kv P "__module__" 196 (.str "adacore.errors" 187), kv P "__qualname__" 198 (.str "AdaError" 197), kv P "__firstlineno__" 200 (.int 2 199), kv P "__init__" 208 (.ref 28), kv P "__static_attributes__" 210 (.ref 29)] 5, #[]⟩
noncomputable def o70 (P : Params) : Obj := ⟨.type "super", none, .fields #[.ref 31, .ref 31, .ref 31], #[]⟩
noncomputable def o108 : FO [3, 0] := ⟨fun P => ⟨.none, none, .func ⟨"__init__", "AdaRaise.__init__", _, .stmts _, _, 0, [], .none, .none, .none, .none, none, .none, .none, 0⟩, #[]⟩, fun _ => rfl⟩
noncomputable def o178 (P : Params) : Obj := ⟨.type "tuple", none, .seq #[.str "bounds" 356, .str "items" 357] 0, #[]⟩
noncomputable def o144 (P : Params) : Obj := ⟨.type "tuple", none, .seq #[] 0, #[]⟩
noncomputable def o212 : FO [9] := ⟨fun P => ⟨.none, none, .func ⟨"need_set", "need_set", _, .stmts _, _, 0, [], .none, .none, .none, .none, none, .none, .none, 0⟩, #[]⟩, fun _ => rfl⟩
noncomputable def o89 (P : Params) : Obj := ⟨.type "tuple", none, .seq #[.str "line" 239] 0, #[]⟩
noncomputable def o126 (P : Params) : Obj := ⟨.none, none, .fields #[], #[]⟩
noncomputable def o196 (P : Params) : Obj := ⟨.type "tuple", none, .seq #[.str "self" 381, .str "t" 382, .str "fields" 383] 0, #[]⟩
noncomputable def o160 (P : Params) : Obj := ⟨.type "super", none, .fields #[.ref 110, .ref 110, .ref 110], #[]⟩
noncomputable def o228 (P : Params) : Obj := ⟨.type "tuple", none, .seq #[] 0, #[]⟩
noncomputable def o62 (P : Params) : Obj := ⟨.type "tuple", none, .seq #[] 0, #[]⟩
noncomputable def o81 (P : Params) : Obj := ⟨.type "frame", none, .plain, #[(some (.ref 40)), (some (.ref 3)), (some (.ref 37)), none, (some (.str "adacore.errors" 187)), none, (some (.ref 0))]⟩
noncomputable def o118 (P : Params) : Obj := ⟨.type "tuple", none, .seq #[] 0, #[]⟩
noncomputable def o188 (P : Params) : Obj := ⟨.type "builtin_function_or_method", none, .fields #[.builtin "type.__prepare__", .type "type"], #[]⟩
noncomputable def o152 : FO [6, 0] := ⟨fun P => ⟨.none, none, .func ⟨"__init__", "Cell.__init__", _, .stmts _, _, 0, [], .none, .none, .none, .none, none, .none, .none, 0⟩, #[]⟩, fun _ => rfl⟩
noncomputable def o220 (P : Params) : Obj := ⟨.type "tuple", none, .seq #[] 0, #[]⟩
noncomputable def o100 (P : Params) : Obj := ⟨.type "tuple", none, .seq #[] 0, #[]⟩
noncomputable def o134 (P : Params) : Obj := ⟨.type "type", none, .cls ⟨"Unset", [.type "object"], [.ref 89, .type "object"], 88, "Unset", true, [], [], false, none, false⟩, #[none, none, (some (.str "Unset" 275)), (some (.str "Unset" 283)), (some (.builtin "object.__new__")), (some (.bool true))]⟩
noncomputable def o204 (P : Params) : Obj := ⟨.type "getset_descriptor", none, .fields #[.str "__dict__" 390, .ref 152, .builtin "function.__dict__", .builtin "function.__dict__#set"], #[]⟩
noncomputable def o170 (P : Params) : Obj := ⟨.type "frame", none, .plain, #[(some (.ref 120)), (some (.ref 3)), (some (.ref 117)), none, (some (.str "adacore.values" 273)), none, (some (.ref 0))]⟩
noncomputable def o236 : FO [15] := ⟨fun P => ⟨.none, none, .func ⟨"dim_length", "dim_length", _, .stmts _, _, 0, [], .none, .none, .none, .none, none, .none, .none, 0⟩, #[]⟩, fun _ => rfl⟩
noncomputable def o58 (P : Params) : Obj := ⟨.type "frame", none, .plain, #[(some (.ref 20)), (some (.ref 3)), (some (.ref 17)), none, (some (.str "adacore.errors" 187)), none, (some (.ref 0))]⟩
noncomputable def o77 (P : Params) : Obj := ⟨.type "dict", none, .dict #[kv P "__module__" 225 (.str "adacore.errors" 187), kv P "__qualname__" 227 (.str "CheckFault" 226), kv P "__firstlineno__" 229 (.int 7 228), kv P "__init__" 238 (.ref 48), kv P "__static_attributes__" 240 (.ref 49)] 5, #[]⟩
noncomputable def o112 (P : Params) : Obj := ⟨.type "dict", none, .dict #[kv P "__module__" 251 (.str "adacore.errors" 187), kv P "__firstlineno__" 255 (.int 12 254), kv P "__init__" 265 (.ref 67), kv P "__static_attributes__" 269 (.ref 68), kv P "__doc__" 270 .none] 2, #[]⟩
noncomputable def o182 (P : Params) : Obj := ⟨.type "getset_descriptor", none, .fields #[.str "__weakref__" 361, .ref 131, .builtin "ExceptionGroup.__weakref__", .none], #[]⟩
noncomputable def o148 (P : Params) : Obj := ⟨.type "tuple", none, .seq #[] 0, #[]⟩
noncomputable def o216 (P : Params) : Obj := ⟨.none, none, .fields #[], #[]⟩
noncomputable def o93 (P : Params) : Obj := ⟨.type "builtin_function_or_method", none, .fields #[.builtin "object.__init_subclass__", .ref 51], #[]⟩
noncomputable def o130 (P : Params) : Obj := ⟨.type "code", none, .fields #[.str "__init__" 287, .str "Unset.__init__" 288, .str "/claim/cut.py" 289, .int 22 0, .int 1 0, .int 0 0, .int 0 0, .int 3 0, .ref 80, .bool true, .int 181 0, .ref 81, .none, .ref 82, .ref 83, .ref 84, .int 291 0, .int 22 0, .str "/claim/cut.py" 292], #[]⟩
noncomputable def o200 : FO [8, 0] := ⟨fun P => ⟨.type "function", none, .func ⟨"__init__", "RecordValue.__init__", _, .stmts _, _, 3, [], .none, .none, .none, .str "adacore.values" 273, none, .ref 148, .none, 0⟩, #[]⟩, fun _ => rfl⟩
noncomputable def o166 (P : Params) : Obj := ⟨.type "dict", none, .dict #[kv P "__module__" 342 (.str "adacore.values" 273), kv P "__qualname__" 344 (.str "ArrayValue" 343), kv P "__firstlineno__" 346 (.int 30 345), kv P "__init__" 355 (.ref 128), kv P "__static_attributes__" 358 (.ref 129)] 5, #[]⟩
noncomputable def o232 (P : Params) : Obj := ⟨.type "tuple", none, .seq #[] 0, #[]⟩
noncomputable def o66 (P : Params) : Obj := ⟨.type "tuple", none, .seq #[.str "text" 209] 0, #[]⟩
noncomputable def o85 (P : Params) : Obj := ⟨.type "tuple", none, .seq #[] 0, #[]⟩
noncomputable def o122 (P : Params) : Obj := ⟨.none, none, .fields #[.int 22 0, .int 4 0, .ref 85], #[]⟩
noncomputable def o192 (P : Params) : Obj := ⟨.type "code", none, .fields #[.str "RecordValue" 368, .str "RecordValue" 369, .str "/claim/cut.py" 370, .int 35 0, .int 0 0, .int 0 0, .int 0 0, .int 0 0, .ref 139, .bool false, .int 181 0, .ref 140, .none, .none, .none, .none, .int 371 0, .int 35 0, .str "/claim/cut.py" 372], #[]⟩
noncomputable def o156 (P : Params) : Obj := ⟨.type "dict", none, .dict #[kv P "__module__" 310 (.str "adacore.values" 273), kv P "__firstlineno__" 314 (.int 24 313), kv P "__init__" 323 (.ref 107), kv P "__static_attributes__" 327 (.ref 108), kv P "__dict__" 329 (.ref 111), kv P "__weakref__" 331 (.ref 112), kv P "__doc__" 332 .none] 4, #[]⟩
noncomputable def o224 : FO [11] := ⟨fun P => ⟨.type "function", none, .func ⟨"lengths_of", "lengths_of", _, .stmts _, _, 3, [], .none, .none, .none, .str "adacore.values" 273, none, .ref 172, .none, 0⟩, #[]⟩, fun _ => rfl⟩
noncomputable def o104 (P : Params) : Obj := ⟨.type "tuple", none, .seq #[] 0, #[]⟩
noncomputable def o138 (P : Params) : Obj := ⟨.type "builtin_function_or_method", none, .fields #[.builtin "object.__init_subclass__", .ref 89], #[]⟩
noncomputable def o208 (P : Params) : Obj := ⟨.type "tuple", none, .seq #[] 0, #[]⟩
noncomputable def o174 (P : Params) : Obj := ⟨.type "tuple", none, .seq #[] 0, #[]⟩
noncomputable def o49 (P : Params) : Obj := ⟨.none, none, .dict #[kv P "type.__subclasses__.Exception.0" 214 (.int 31 0), kv P "type.__subclasses__.Exception.n" 215 (.int 1 0)] 2, #[]⟩
noncomputable def o53 (P : Params) : Obj := ⟨.type "builtin_function_or_method", none, .fields #[.builtin "type.__prepare__", .type "type"], #[]⟩
noncomputable def o69 (P : Params) : Obj := ⟨.type "getset_descriptor", none, .fields #[.str "__weakref__" 211, .ref 31, .builtin "ExceptionGroup.__weakref__", .none], #[]⟩
noncomputable def o107 (P : Params) : Obj := ⟨.type "tuple", none, .seq #[] 0, #[]⟩
noncomputable def o177 : FO [7, 0] := ⟨fun P => ⟨.type "function", none, .func ⟨"__init__", "ArrayValue.__init__", _, .stmts _, _, 3, [], .none, .none, .none, .str "adacore.values" 273, none, .ref 127, .none, 0⟩, #[]⟩, fun _ => rfl⟩
noncomputable def o143 (P : Params) : Obj := ⟨.type "dict", none, .dict #[kv P "__module__" 310 (.str "adacore.values" 273), kv P "__qualname__" 312 (.str "Cell" 311), kv P "__firstlineno__" 314 (.int 24 313), kv P "__init__" 323 (.ref 107), kv P "__static_attributes__" 327 (.ref 108)] 5, #[]⟩
noncomputable def o211 (P : Params) : Obj := ⟨.type "tuple", none, .seq #[] 0, #[]⟩
noncomputable def o88 : FO [2, 0] := ⟨fun P => ⟨.type "function", none, .func ⟨"__init__", "CheckFault.__init__", _, .stmts _, _, 3, [], .none, .none, .none, .str "adacore.errors" 187, none, .ref 47, .none, 0⟩, #[]⟩, fun _ => rfl⟩
noncomputable def o125 (P : Params) : Obj := ⟨.type "tuple", none, .seq #[] 0, #[]⟩
noncomputable def o195 (P : Params) : Obj := ⟨.none, none, .fields #[], #[]⟩
noncomputable def o159 (P : Params) : Obj := ⟨.type "getset_descriptor", none, .fields #[.str "__weakref__" 330, .ref 110, .builtin "ExceptionGroup.__weakref__", .none], #[]⟩
noncomputable def o227 (P : Params) : Obj := ⟨.type "tuple", none, .seq #[.str "text" 423] 0, #[]⟩
noncomputable def o61 (P : Params) : Obj := ⟨.type "tuple", none, .seq #[.str "self" 204, .str "text" 205] 0, #[]⟩
noncomputable def o80 (P : Params) : Obj := ⟨.type "code", none, .fields #[.str "CheckFault" 220, .str "CheckFault" 221, .str "/claim/cut.py" 222, .int 7 0, .int 0 0, .int 0 0, .int 0 0, .int 0 0, .ref 38, .bool false, .int 181 0, .ref 39, .none, .none, .none, .none, .int 223 0, .int 7 0, .str "/claim/cut.py" 224], #[]⟩
noncomputable def o115 (P : Params) : Obj := ⟨.type "builtin_function_or_method", none, .fields #[.builtin "object.__init_subclass__", .ref 70], #[]⟩
noncomputable def o187 (P : Params) : Obj := ⟨.type "tuple", none, .seq #[] 0, #[]⟩
noncomputable def o151 (P : Params) : Obj := ⟨.type "tuple", none, .seq #[] 0, #[]⟩
noncomputable def o219 : FO [10] := ⟨fun P => ⟨.type "function", none, .func ⟨"copy_value", "copy_value", _, .stmts _, _, 3, [], .none, .none, .none, .str "adacore.values" 273, none, .ref 167, .none, 0⟩, #[]⟩, fun _ => rfl⟩
noncomputable def o99 (P : Params) : Obj := ⟨.type "dict", none, .dict #[kv P "__module__" 251 (.str "adacore.errors" 187), kv P "__qualname__" 253 (.str "AdaRaise" 252), kv P "__firstlineno__" 255 (.int 12 254), kv P "__init__" 265 (.ref 67), kv P "__static_attributes__" 269 (.ref 68)] 5, #[]⟩
noncomputable def o133 (P : Params) : Obj := ⟨.type "dict", none, .dict #[kv P "__module__" 282 (.str "adacore.values" 273), kv P "__firstlineno__" 286 (.int 20 285), kv P "__init__" 293 (.ref 86), kv P "__static_attributes__" 295 (.ref 87), kv P "__dict__" 297 (.ref 90), kv P "__weakref__" 299 (.ref 91), kv P "__doc__" 300 .none] 4, #[]⟩
noncomputable def o203 (P : Params) : Obj := ⟨.type "type", none, .cls ⟨"RecordValue", [.type "object"], [.ref 152, .type "object"], 151, "RecordValue", true, [], [], false, none, false⟩, #[none, none, (some (.str "RecordValue" 366)), (some (.str "RecordValue" 374)), (some (.builtin "object.__new__")), (some (.bool true))]⟩
noncomputable def o169 (P : Params) : Obj := ⟨.type "code", none, .fields #[.str "ArrayValue" 337, .str "ArrayValue" 338, .str "/claim/cut.py" 339, .int 30 0, .int 0 0, .int 0 0, .int 0 0, .int 0 0, .ref 118, .bool false, .int 181 0, .ref 119, .none, .none, .none, .none, .int 340 0, .int 30 0, .str "/claim/cut.py" 341], #[]⟩
noncomputable def o235 (P : Params) : Obj := ⟨.type "tuple", none, .seq #[] 0, #[]⟩
noncomputable def o186 (P : Params) : Obj := ⟨.none, none, .fields #[.int 2 0, .int 0 0, .ref 20, .int 7 0, .int 0 0, .ref 40, .int 12 0, .int 0 0, .ref 59, .int 20 0, .int 0 0, .ref 78, .int 24 0, .int 0 0, .ref 99, .int 30 0, .int 0 0, .ref 120, .int 35 0, .int 0 0, .ref 141, .int 40 0, .int 0 0, .ref 162, .int 44 0, .int 0 0, .ref 167, .int 53 0, .int 0 0, .ref 172, .int 57 0, .int 0 0, .ref 179, .int 59 0, .int 0 0, .ref 186], #[]⟩
noncomputable def o57 (P : Params) : Obj := ⟨.type "code", none, .fields #[.str "AdaError" 191, .str "AdaError" 192, .str "/claim/cut.py" 193, .int 2 0, .int 0 0, .int 0 0, .int 0 0, .int 0 0, .ref 18, .bool false, .int 181 0, .ref 19, .none, .none, .none, .none, .int 194 0, .int 2 0, .str "/claim/cut.py" 195], #[]⟩
noncomputable def o76 (P : Params) : Obj := ⟨.type "builtin_function_or_method", none, .fields #[.builtin "type.__prepare__", .type "type"], #[]⟩
noncomputable def o111 (P : Params) : Obj := ⟨.type "tuple", none, .seq #[.str "line" 266, .str "name" 267, .str "word" 268] 0, #[]⟩
noncomputable def o181 (P : Params) : Obj := ⟨.type "getset_descriptor", none, .fields #[.str "__dict__" 359, .ref 131, .builtin "function.__dict__", .builtin "function.__dict__#set"], #[]⟩
noncomputable def o147 (P : Params) : Obj := ⟨.type "frame", none, .plain, #[(some (.ref 99)), (some (.ref 3)), (some (.ref 96)), none, (some (.str "adacore.values" 273)), none, (some (.ref 0))]⟩
noncomputable def o215 (P : Params) : Obj := ⟨.type "tuple", none, .seq #[] 0, #[]⟩
noncomputable def o92 (P : Params) : Obj := ⟨.type "super", none, .fields #[.ref 51, .ref 51, .ref 51], #[]⟩
noncomputable def o129 : FO [5, 0] := ⟨fun P => ⟨.none, none, .func ⟨"__init__", "Unset.__init__", _, .stmts _, _, 0, [], .none, .none, .none, .none, none, .none, .none, 0⟩, #[]⟩, fun _ => rfl⟩
noncomputable def o199 (P : Params) : Obj := ⟨.type "code", none, .fields #[.str "__init__" 378, .str "RecordValue.__init__" 379, .str "/claim/cut.py" 380, .int 37 0, .int 3 0, .int 0 0, .int 0 0, .int 3 0, .ref 143, .bool true, .int 181 0, .ref 144, .none, .ref 145, .ref 146, .ref 147, .int 384 0, .int 37 0, .str "/claim/cut.py" 385], #[]⟩
noncomputable def o165 (P : Params) : Obj := ⟨.type "builtin_function_or_method", none, .fields #[.builtin "type.__prepare__", .type "type"], #[]⟩
noncomputable def o231 : FO [14] := ⟨fun P => ⟨.type "function", none, .func ⟨"raise_constraint", "raise_constraint", _, .stmts _, _, 3, [], .none, .none, .none, .str "adacore.arrays" 416, none, .ref 179, .none, 0⟩, #[]⟩, fun _ => rfl⟩
noncomputable def o65 : FO [1, 0] := ⟨fun P => ⟨.type "function", none, .func ⟨"__init__", "AdaError.__init__", _, .stmts _, _, 3, [], .none, .none, .none, .str "adacore.errors" 187, none, .ref 27, .none, 0⟩, #[]⟩, fun _ => rfl⟩
noncomputable def o84 (P : Params) : Obj := ⟨.type "tuple", none, .seq #[.str "self" 233, .str "line" 234, .str "text" 235] 0, #[]⟩
noncomputable def o121 (P : Params) : Obj := ⟨.type "tuple", none, .seq #[] 0, #[]⟩
noncomputable def o191 (P : Params) : Obj := ⟨.none, none, .fields #[.int 37 0, .int 4 0, .ref 148], #[]⟩
noncomputable def o155 (P : Params) : Obj := ⟨.type "tuple", none, .seq #[.str "number" 324, .str "subtype" 325, .str "value" 326] 0, #[]⟩
noncomputable def o223 (P : Params) : Obj := ⟨.type "code", none, .fields #[.str "lengths_of" 410, .str "lengths_of" 411, .str "/claim/cut.py" 412, .int 53 0, .int 1 0, .int 0 0, .int 0 0, .int 3 0, .ref 169, .bool true, .int 181 0, .ref 170, .none, .none, .none, .ref 171, .int 413 0, .int 53 0, .str "/claim/cut.py" 414], #[]⟩
noncomputable def o103 (P : Params) : Obj := ⟨.type "frame", none, .plain, #[(some (.ref 59)), (some (.ref 3)), (some (.ref 56)), none, (some (.str "adacore.errors" 187)), none, (some (.ref 0))]⟩
noncomputable def o137 (P : Params) : Obj := ⟨.type "super", none, .fields #[.ref 89, .ref 89, .ref 89], #[]⟩
noncomputable def o207 (P : Params) : Obj := ⟨.type "builtin_function_or_method", none, .fields #[.builtin "object.__init_subclass__", .ref 152], #[]⟩
noncomputable def o173 (P : Params) : Obj := ⟨.type "tuple", none, .seq #[.str "self" 350, .str "bounds" 351, .str "items" 352] 0, #[]⟩
noncomputable def o55 (P : Params) : Obj := ⟨.type "tuple", none, .seq #[] 0, #[]⟩
noncomputable def o71 (P : Params) : Obj := ⟨.type "builtin_function_or_method", none, .fields #[.builtin "object.__init_subclass__", .ref 31], #[]⟩
noncomputable def o109 (P : Params) : Obj := ⟨.type "code", none, .fields #[.str "__init__" 256, .str "AdaRaise.__init__" 257, .str "/claim/cut.py" 258, .int 14 0, .int 4 0, .int 0 0, .int 0 0, .int 3 0, .ref 61, .bool true, .int 181 0, .ref 62, .none, .ref 63, .ref 64, .ref 65, .int 263 0, .int 14 0, .str "/claim/cut.py" 264], #[]⟩
noncomputable def o179 (P : Params) : Obj := ⟨.type "dict", none, .dict #[kv P "__module__" 342 (.str "adacore.values" 273), kv P "__firstlineno__" 346 (.int 30 345), kv P "__init__" 355 (.ref 128), kv P "__static_attributes__" 358 (.ref 129), kv P "__dict__" 360 (.ref 132), kv P "__weakref__" 362 (.ref 133), kv P "__doc__" 363 .none] 4, #[]⟩
noncomputable def o145 (P : Params) : Obj := ⟨.none, none, .fields #[.int 26 0, .int 4 0, .ref 106], #[]⟩
noncomputable def o213 (P : Params) : Obj := ⟨.type "code", none, .fields #[.str "need_set" 397, .str "need_set" 398, .str "/claim/cut.py" 399, .int 40 0, .int 1 0, .int 0 0, .int 0 0, .int 3 0, .ref 157, .bool true, .int 181 0, .ref 158, .none, .ref 159, .ref 160, .ref 161, .int 401 0, .int 40 0, .str "/claim/cut.py" 402], #[]⟩
noncomputable def o90 (P : Params) : Obj := ⟨.type "dict", none, .dict #[kv P "__module__" 225 (.str "adacore.errors" 187), kv P "__firstlineno__" 229 (.int 7 228), kv P "__init__" 238 (.ref 48), kv P "__static_attributes__" 240 (.ref 49), kv P "__doc__" 241 .none] 2, #[]⟩
noncomputable def o127 (P : Params) : Obj := ⟨.type "tuple", none, .seq #[.str "self" 290] 0, #[]⟩
noncomputable def o197 (P : Params) : Obj := ⟨.type "tuple", none, .seq #[] 0, #[]⟩
noncomputable def o161 (P : Params) : Obj := ⟨.type "builtin_function_or_method", none, .fields #[.builtin "object.__init_subclass__", .ref 110], #[]⟩
noncomputable def o229 : FO [14] := ⟨fun P => ⟨.none, none, .func ⟨"raise_constraint", "raise_constraint", _, .stmts _, _, 0, [], .none, .none, .none, .none, none, .none, .none, 0⟩, #[]⟩, fun _ => rfl⟩
noncomputable def o63 : FO [1, 0] := ⟨fun P => ⟨.none, none, .func ⟨"__init__", "AdaError.__init__", _, .stmts _, _, 0, [], .none, .none, .none, .none, none, .none, .none, 0⟩, #[]⟩, fun _ => rfl⟩
noncomputable def o82 (P : Params) : Obj := ⟨.type "tuple", none, .seq #[] 0, #[]⟩
noncomputable def o119 (P : Params) : Obj := ⟨.type "builtin_function_or_method", none, .fields #[.builtin "type.__prepare__", .type "type"], #[]⟩
noncomputable def o189 (P : Params) : Obj := ⟨.type "dict", none, .dict #[kv P "__module__" 373 (.str "adacore.values" 273), kv P "__qualname__" 375 (.str "RecordValue" 374), kv P "__firstlineno__" 377 (.int 35 376), kv P "__init__" 386 (.ref 149), kv P "__static_attributes__" 389 (.ref 150)] 5, #[]⟩
noncomputable def o153 (P : Params) : Obj := ⟨.type "code", none, .fields #[.str "__init__" 315, .str "Cell.__init__" 316, .str "/claim/cut.py" 317, .int 26 0, .int 3 0, .int 0 0, .int 0 0, .int 3 0, .ref 101, .bool true, .int 181 0, .ref 102, .none, .ref 103, .ref 104, .ref 105, .int 321 0, .int 26 0, .str "/claim/cut.py" 322], #[]⟩
noncomputable def o221 (P : Params) : Obj := ⟨.none, none, .fields #[], #[]⟩
noncomputable def o101 (P : Params) : Obj := ⟨.none, none, .fields #[.int 14 0, .int 4 0, .ref 66], #[]⟩
noncomputable def o135 (P : Params) : Obj := ⟨.type "getset_descriptor", none, .fields #[.str "__dict__" 296, .ref 89, .builtin "function.__dict__", .builtin "function.__dict__#set"], #[]⟩
noncomputable def o205 (P : Params) : Obj := ⟨.type "getset_descriptor", none, .fields #[.str "__weakref__" 392, .ref 152, .builtin "ExceptionGroup.__weakref__", .none], #[]⟩
noncomputable def o171 (P : Params) : Obj := ⟨.type "tuple", none, .seq #[] 0, #[]⟩
noncomputable def o237 (P : Params) : Obj := ⟨.type "code", none, .fields #[.str "dim_length" 427, .str "dim_length" 428, .str "/claim/cut.py" 429, .int 59 0, .int 2 0, .int 0 0, .int 0 0, .int 3 0, .ref 181, .bool true, .int 181 0, .ref 182, .none, .ref 183, .ref 184, .ref 185, .int 432 0, .int 59 0, .str "/claim/cut.py" 433], #[]⟩
noncomputable def o59 (P : Params) : Obj := ⟨.type "tuple", none, .seq #[] 0, #[]⟩
noncomputable def o78 (P : Params) : Obj := ⟨.type "tuple", none, .seq #[] 0, #[]⟩
noncomputable def o113 (P : Params) : Obj := ⟨.type "type", none, .cls ⟨"AdaRaise", [.ref 31], [.ref 70, .ref 31, .type "Exception", .type "BaseException", .type "object"], 69, "AdaRaise", true, [], [], false, none, false⟩, #[(some (.ref 54)), none, (some (.str "AdaRaise" 244)), (some (.str "AdaRaise" 252)), (some (.builtin "Exception.__new__")), (some (.bool true))]⟩
noncomputable def o183 (P : Params) : Obj := ⟨.type "super", none, .fields #[.ref 131, .ref 131, .ref 131], #[]⟩
noncomputable def o149 (P : Params) : Obj := ⟨.none, none, .fields #[], #[]⟩
noncomputable def o217 : FO [10] := ⟨fun P => ⟨.none, none, .func ⟨"copy_value", "copy_value", _, .stmts _, _, 0, [], .none, .none, .none, .none, none, .none, .none, 0⟩, #[]⟩, fun _ => rfl⟩
noncomputable def o97 (P : Params) : Obj := ⟨.type "tuple", none, .seq #[.ref 31] 0, #[]⟩
noncomputable def o131 : FO [5, 0] := ⟨fun P => ⟨.type "function", none, .func ⟨"__init__", "Unset.__init__", _, .stmts _, _, 3, [], .none, .none, .none, .str "adacore.values" 273, none, .ref 85, .none, 0⟩, #[]⟩, fun _ => rfl⟩
noncomputable def o201 (P : Params) : Obj := ⟨.type "tuple", none, .seq #[.str "fields" 387, .str "type" 388] 0, #[]⟩
noncomputable def o167 (P : Params) : Obj := ⟨.type "tuple", none, .seq #[] 0, #[]⟩
noncomputable def o233 (P : Params) : Obj := ⟨.none, none, .fields #[], #[]⟩
noncomputable def o67 (P : Params) : Obj := ⟨.type "dict", none, .dict #[kv P "__module__" 196 (.str "adacore.errors" 187), kv P "__firstlineno__" 200 (.int 2 199), kv P "__init__" 208 (.ref 28), kv P "__static_attributes__" 210 (.ref 29), kv P "__weakref__" 212 (.ref 32), kv P "__doc__" 213 .none] 3, #[]⟩
noncomputable def o86 : FO [2, 0] := ⟨fun P => ⟨.none, none, .func ⟨"__init__", "CheckFault.__init__", _, .stmts _, _, 0, [], .none, .none, .none, .none, none, .none, .none, 0⟩, #[]⟩, fun _ => rfl⟩
noncomputable def o123 (P : Params) : Obj := ⟨.type "code", none, .fields #[.str "Unset" 277, .str "Unset" 278, .str "/claim/cut.py" 279, .int 20 0, .int 0 0, .int 0 0, .int 0 0, .int 0 0, .ref 76, .bool false, .int 181 0, .ref 77, .none, .none, .none, .none, .int 280 0, .int 20 0, .str "/claim/cut.py" 281], #[]⟩
noncomputable def o193 (P : Params) : Obj := ⟨.type "frame", none, .plain, #[(some (.ref 141)), (some (.ref 3)), (some (.ref 138)), none, (some (.str "adacore.values" 273)), none, (some (.ref 0))]⟩
noncomputable def o157 (P : Params) : Obj := ⟨.type "type", none, .cls ⟨"Cell", [.type "object"], [.ref 110, .type "object"], 109, "Cell", true, [], [], false, none, false⟩, #[none, none, (some (.str "Cell" 303)), (some (.str "Cell" 311)), (some (.builtin "object.__new__")), (some (.bool true))]⟩
noncomputable def o225 (P : Params) : Obj := ⟨.type "tuple", none, .seq #[] 0, #[]⟩
noncomputable def o105 (P : Params) : Obj := ⟨.none, none, .fields #[], #[]⟩
noncomputable def o141 (P : Params) : Obj := ⟨.type "tuple", none, .seq #[] 0, #[]⟩
noncomputable def o209 (P : Params) : Obj := ⟨.none, none, .fields #[], #[]⟩
noncomputable def o175 : FO [7, 0] := ⟨fun P => ⟨.none, none, .func ⟨"__init__", "ArrayValue.__init__", _, .stmts _, _, 0, [], .none, .none, .none, .none, none, .none, .none, 0⟩, #[]⟩, fun _ => rfl⟩
noncomputable def o345 (P : Params) : Obj := ⟨.type "dict", none, .dict #[kv P "__name__" 165 (.str "adacore.records" 667), kv P "__doc__" 166 .none, kv P "__package__" 167 .none, kv P "__loader__" 168 (.builtin "__main__.__loader__#opaque"), kv P "__spec__" 169 .none, kv P "__annotations__" 170 (.ref 6), kv P "__builtins__" 171 (.ref 4), kv P "__file__" 173 (.str "/claim/cut.py" 172), kv P "__cached__" 174 .none, kv P "AdaError" 217 (.ref 31), kv P "CheckFault" 243 (.ref 51), kv P "AdaRaise" 272 (.ref 70), kv P "Unset" 302 (.ref 89), kv P "Cell" 334 (.ref 110), kv P "ArrayValue" 365 (.ref 131), kv P "RecordValue" 396 (.ref 152), kv P "need_set" 403 (.ref 163), kv P "copy_value" 409 (.ref 168), kv P "lengths_of" 415 (.ref 173), kv P "OTHERS" 419 (.str "others" 418), kv P "raise_constraint" 426 (.ref 180), kv P "dim_length" 434 (.ref 187), kv P "check_lengths" 440 (.ref 192), kv P "slide_array" 446 (.ref 197), kv P "check_index_bounds" 454 (.ref 204), kv P "check_index_ranges" 467 (.ref 211), kv P "SCALAR_KINDS" 475 (.ref 212), kv P "Type" 528 (.ref 229), kv P "Subtype" 559 (.ref 250), kv P "base_bounds" 566 (.ref 261), kv P "int_type" 576 (.ref 268), kv P "array_type" 587 (.ref 275), kv P "record_type" 598 (.ref 282), kv P "access_type" 607 (.ref 289), kv P "numbered" 615 (.ref 296), kv P "same_type" 623 (.ref 303), kv P "is_scalar" 630 (.ref 310), kv P "is_numeric" 637 (.ref 317), kv P "integer_type" 646 (.ref 324), kv P "MOST_PRIVATE" 650 (.int 41 649), kv P "full_subtype" 659 (.ref 331), kv P "full_type" 666 (.ref 338), kv P "MOST_LINE" 670 (.int 40 669), kv P "type_line" 679 (.ref 345), kv P "covers_choice" 689 (.ref 352), kv P "chosen_alternative" 699 (.ref 359), kv P "variant_parts" 710 (.ref 366)] 47, #[]⟩
noncomputable def o310 (P : Params) : Obj := ⟨.type "tuple", none, .seq #[] 0, #[]⟩
noncomputable def o244 (P : Params) : Obj := ⟨.type "code", none, .fields #[.str "check_lengths" 435, .str "check_lengths" 436, .str "/claim/cut.py" 437, .int 61 0, .int 2 0, .int 0 0, .int 0 0, .int 3 0, .ref 188, .bool true, .int 181 0, .ref 189, .none, .none, .none, .ref 190, .int 438 0, .int 61 0, .str "/claim/cut.py" 439], #[]⟩
noncomputable def o376 (P : Params) : Obj := ⟨.none, none, .fields #[], #[]⟩
noncomputable def o342 : FO [28] := ⟨fun P => ⟨.none, none, .func ⟨"access_type", "access_type", _, .stmts _, _, 0, [], .none, .none, .none, .none, none, .none, .none, 0⟩, #[]⟩, fun _ => rfl⟩
noncomputable def o276 (P : Params) : Obj := ⟨.type "tuple", none, .seq #[] 0, #[]⟩
noncomputable def o408 (P : Params) : Obj := ⟨.type "code", none, .fields #[.str "covers_choice" 680, .str "covers_choice" 681, .str "/claim/cut.py" 682, .int 172 0, .int 2 0, .int 0 0, .int 0 0, .int 3 0, .ref 346, .bool true, .int 181 0, .ref 347, .none, .ref 348, .ref 349, .ref 350, .int 687 0, .int 172 0, .str "/claim/cut.py" 688], #[]⟩
noncomputable def o326 (P : Params) : Obj := ⟨.type "tuple", none, .seq #[.str "name" 580, .str "index" 581, .str "component" 582, .str "is_constrained" 583, .str "made" 584] 0, #[]⟩
noncomputable def o260 (P : Params) : Obj := ⟨.type "tuple", none, .seq #[.str "bounds" 458, .str "ranges" 459, .str "place" 460, .str "low" 461, .str "high" 462, .str "least" 463, .str "most" 464] 0, #[]⟩
noncomputable def o392 (P : Params) : Obj := ⟨.type "tuple", none, .seq #[] 0, #[]⟩
noncomputable def o360 : FO [30] := ⟨fun P => ⟨.type "function", none, .func ⟨"same_type", "same_type", _, .stmts _, _, 3, [], .none, .none, .none, .str "adacore.types" 468, none, .ref 302, .none, 0⟩, #[]⟩, fun _ => rfl⟩
noncomputable def o294 (P : Params) : Obj := ⟨.type "code", none, .fields #[.str "Subtype" 531, .str "Subtype" 532, .str "/claim/cut.py" 533, .int 105 0, .int 0 0, .int 0 0, .int 0 0, .int 0 0, .ref 237, .bool false, .int 181 0, .ref 238, .none, .none, .none, .none, .int 534 0, .int 105 0, .str "/claim/cut.py" 535], #[]⟩
noncomputable def o318 (P : Params) : Obj := ⟨.none, none, .fields #[], #[]⟩
noncomputable def o252 (P : Params) : Obj := ⟨.none, none, .fields #[], #[]⟩
noncomputable def o384 (P : Params) : Obj := ⟨.type "tuple", none, .seq #[.str "subtype" 654, .str "turns" 655, .str "behind" 656] 0, #[]⟩
noncomputable def o352 (P : Params) : Obj := ⟨.type "code", none, .fields #[.str "numbered" 608, .str "numbered" 609, .str "/claim/cut.py" 610, .int 134 0, .int 2 0, .int 0 0, .int 0 0, .int 3 0, .ref 290, .bool true, .int 181 0, .ref 291, .none, .ref 292, .ref 293, .ref 294, .int 613 0, .int 134 0, .str "/claim/cut.py" 614], #[]⟩
noncomputable def o284 (P : Params) : Obj := ⟨.type "getset_descriptor", none, .fields #[.str "__weakref__" 524, .ref 229, .builtin "ExceptionGroup.__weakref__", .none], #[]⟩
noncomputable def o416 : FO [42] := ⟨fun P => ⟨.type "function", none, .func ⟨"chosen_alternative", "chosen_alternative", _, .stmts _, _, 3, [], .none, .none, .none, .str "adacore.records" 667, none, .ref 358, .none, 0⟩, #[]⟩, fun _ => rfl⟩
noncomputable def o334 (P : Params) : Obj := ⟨.type "tuple", none, .seq #[] 0, #[]⟩
noncomputable def o268 (P : Params) : Obj := ⟨.type "dict", none, .dict #[kv P "__module__" 483 (.str "adacore.types" 468), kv P "__qualname__" 485 (.str "Type" 484), kv P "__firstlineno__" 487 (.int 78 486), kv P "__init__" 496 (.ref 226), kv P "__static_attributes__" 521 (.ref 227)] 5, #[]⟩
noncomputable def o400 : FO [40] := ⟨fun P => ⟨.none, none, .func ⟨"type_line", "type_line", _, .stmts _, _, 0, [], .none, .none, .none, .none, none, .none, .none, 0⟩, #[]⟩, fun _ => rfl⟩
noncomputable def o368 (P : Params) : Obj := ⟨.type "tuple", none, .seq #[] 0, #[]⟩
noncomputable def o302 : FO [23, 0] := ⟨fun P => ⟨.type "function", none, .func ⟨"__init__", "Subtype.__init__", _, .stmts _, _, 3, [], .none, .none, .none, .str "adacore.types" 468, none, .ref 246, .none, 0⟩, #[]⟩, fun _ => rfl⟩
noncomputable def o314 : FO [24] := ⟨fun P => ⟨.none, none, .func ⟨"base_bounds", "base_bounds", _, .stmts _, _, 0, [], .none, .none, .none, .none, none, .none, .none, 0⟩, #[]⟩, fun _ => rfl⟩
noncomputable def o248 : FO [17] := ⟨fun P => ⟨.none, none, .func ⟨"slide_array", "slide_array", _, .stmts _, _, 0, [], .none, .none, .none, .none, none, .none, .none, 0⟩, #[]⟩, fun _ => rfl⟩
noncomputable def o380 (P : Params) : Obj := ⟨.type "code", none, .fields #[.str "integer_type" 638, .str "integer_type" 639, .str "/claim/cut.py" 640, .int 143 0, .int 1 0, .int 0 0, .int 0 0, .int 3 0, .ref 318, .bool true, .int 181 0, .ref 319, .none, .ref 320, .ref 321, .ref 322, .int 644 0, .int 143 0, .str "/claim/cut.py" 645], #[]⟩
noncomputable def o348 (P : Params) : Obj := ⟨.none, none, .fields #[], #[]⟩
noncomputable def o280 (P : Params) : Obj := ⟨.type "tuple", none, .seq #[.str "component" 497, .str "components" 498, .str "designated" 499, .str "discriminants" 500, .str "high" 501, .str "index" 502, .str "is_abstract" 503, .str "is_constant" 504, .str "is_constrained" 505, .str "is_late" 506, .str "is_limited" 507, .str "is_private" 508, .str "is_tagged" 509, .str "kind" 510, .str "literals" 511, .str "low" 512, .str "modulus" 513, .str "name" 514, .str "number" 515, .str "operations" 516, .str "parent" 517, .str "small" 518, .str "variant" 519, .str "wide" 520] 0, #[]⟩
noncomputable def o412 (P : Params) : Obj := ⟨.type "tuple", none, .seq #[.str "variant" 693, .str "discs" 694, .str "value" 695, .str "alternative" 696] 0, #[]⟩
noncomputable def o330 : FO [26] := ⟨fun P => ⟨.type "function", none, .func ⟨"array_type", "array_type", _, .stmts _, _, 3, [], .none, .none, .none, .str "adacore.types" 468, none, .ref 274, .none, 0⟩, #[]⟩, fun _ => rfl⟩
noncomputable def o264 : FO [19] := ⟨fun P => ⟨.type "function", none, .func ⟨"check_index_ranges", "check_index_ranges", _, .stmts _, _, 3, [], .none, .none, .none, .str "adacore.arrays" 416, none, .ref 210, .none, 0⟩, #[]⟩, fun _ => rfl⟩
noncomputable def o396 (P : Params) : Obj := ⟨.type "tuple", none, .seq #[] 0, #[]⟩
noncomputable def o364 (P : Params) : Obj := ⟨.type "tuple", none, .seq #[] 0, #[]⟩
noncomputable def o298 (P : Params) : Obj := ⟨.type "tuple", none, .seq #[.str "self" 544, .str "t" 545, .str "constraint" 546] 0, #[]⟩
noncomputable def o322 (P : Params) : Obj := ⟨.type "code", none, .fields #[.str "int_type" 567, .str "int_type" 568, .str "/claim/cut.py" 569, .int 112 0, .int 3 0, .int 0 0, .int 0 0, .int 3 0, .ref 262, .bool true, .int 181 0, .ref 263, .none, .ref 264, .ref 265, .ref 266, .int 574 0, .int 112 0, .str "/claim/cut.py" 575], #[]⟩
noncomputable def o256 (P : Params) : Obj := ⟨.type "code", none, .fields #[.str "check_index_bounds" 447, .str "check_index_bounds" 448, .str "/claim/cut.py" 449, .int 67 0, .int 2 0, .int 0 0, .int 0 0, .int 3 0, .ref 198, .bool true, .int 181 0, .ref 199, .none, .ref 200, .ref 201, .ref 202, .int 452 0, .int 67 0, .str "/claim/cut.py" 453], #[]⟩
noncomputable def o388 : FO [36] := ⟨fun P => ⟨.type "function", none, .func ⟨"full_subtype", "full_subtype", _, .stmts _, _, 3, [], .none, .none, .none, .str "adacore.fulltypes" 647, none, .ref 330, .none, 0⟩, #[]⟩, fun _ => rfl⟩
noncomputable def o356 (P : Params) : Obj := ⟨.type "tuple", none, .seq #[.str "a" 619, .str "b" 620] 0, #[]⟩
noncomputable def o290 (P : Params) : Obj := ⟨.type "builtin_function_or_method", none, .fields #[.builtin "type.__prepare__", .type "type"], #[]⟩
noncomputable def o420 (P : Params) : Obj := ⟨.type "tuple", none, .seq #[] 0, #[]⟩
noncomputable def o338 (P : Params) : Obj := ⟨.type "tuple", none, .seq #[] 0, #[]⟩
noncomputable def o272 (P : Params) : Obj := ⟨.type "frame", none, .plain, #[(some (.ref 218)), (some (.ref 3)), (some (.ref 215)), none, (some (.str "adacore.types" 468)), none, (some (.ref 0))]⟩
noncomputable def o404 (P : Params) : Obj := ⟨.none, none, .fields #[], #[]⟩
noncomputable def o372 : FO [32] := ⟨fun P => ⟨.none, none, .func ⟨"is_numeric", "is_numeric", _, .stmts _, _, 0, [], .none, .none, .none, .none, none, .none, .none, 0⟩, #[]⟩, fun _ => rfl⟩
noncomputable def o306 (P : Params) : Obj := ⟨.type "getset_descriptor", none, .fields #[.str "__dict__" 553, .ref 250, .builtin "function.__dict__", .builtin "function.__dict__#set"], #[]⟩
noncomputable def o312 (P : Params) : Obj := ⟨.type "tuple", none, .seq #[.str "width" 563] 0, #[]⟩
noncomputable def o246 (P : Params) : Obj := ⟨.type "tuple", none, .seq #[] 0, #[]⟩
noncomputable def o378 (P : Params) : Obj := ⟨.type "tuple", none, .seq #[] 0, #[]⟩
noncomputable def o344 : FO [28] := ⟨fun P => ⟨.type "function", none, .func ⟨"access_type", "access_type", _, .stmts _, _, 3, [], .none, .none, .none, .str "adacore.types" 468, none, .ref 288, .none, 0⟩, #[]⟩, fun _ => rfl⟩
noncomputable def o278 (P : Params) : Obj := ⟨.type "code", none, .fields #[.str "__init__" 488, .str "Type.__init__" 489, .str "/claim/cut.py" 490, .int 80 0, .int 3 0, .int 0 0, .int 0 0, .int 3 0, .ref 220, .bool true, .int 181 0, .ref 221, .none, .ref 222, .ref 223, .ref 224, .int 494 0, .int 80 0, .str "/claim/cut.py" 495], #[]⟩
noncomputable def o410 (P : Params) : Obj := ⟨.type "tuple", none, .seq #[] 0, #[]⟩
noncomputable def o328 : FO [26] := ⟨fun P => ⟨.none, none, .func ⟨"array_type", "array_type", _, .stmts _, _, 0, [], .none, .none, .none, .none, none, .none, .none, 0⟩, #[]⟩, fun _ => rfl⟩
noncomputable def o262 : FO [19] := ⟨fun P => ⟨.none, none, .func ⟨"check_index_ranges", "check_index_ranges", _, .stmts _, _, 0, [], .none, .none, .none, .none, none, .none, .none, 0⟩, #[]⟩, fun _ => rfl⟩
noncomputable def o394 (P : Params) : Obj := ⟨.type "code", none, .fields #[.str "full_type" 660, .str "full_type" 661, .str "/claim/cut.py" 662, .int 157 0, .int 1 0, .int 0 0, .int 0 0, .int 3 0, .ref 332, .bool true, .int 181 0, .ref 333, .none, .ref 334, .ref 335, .ref 336, .int 664 0, .int 157 0, .str "/claim/cut.py" 665], #[]⟩
noncomputable def o362 (P : Params) : Obj := ⟨.none, none, .fields #[], #[]⟩
noncomputable def o296 (P : Params) : Obj := ⟨.type "tuple", none, .seq #[] 0, #[]⟩
noncomputable def o320 (P : Params) : Obj := ⟨.type "tuple", none, .seq #[] 0, #[]⟩
noncomputable def o254 (P : Params) : Obj := ⟨.type "tuple", none, .seq #[] 0, #[]⟩
noncomputable def o386 : FO [36] := ⟨fun P => ⟨.none, none, .func ⟨"full_subtype", "full_subtype", _, .stmts _, _, 0, [], .none, .none, .none, .none, none, .none, .none, 0⟩, #[]⟩, fun _ => rfl⟩
noncomputable def o354 (P : Params) : Obj := ⟨.type "tuple", none, .seq #[] 0, #[]⟩
noncomputable def o286 (P : Params) : Obj := ⟨.type "builtin_function_or_method", none, .fields #[.builtin "object.__init_subclass__", .ref 229], #[]⟩
noncomputable def o418 (P : Params) : Obj := ⟨.none, none, .fields #[], #[]⟩
noncomputable def o336 (P : Params) : Obj := ⟨.type "code", none, .fields #[.str "record_type" 588, .str "record_type" 589, .str "/claim/cut.py" 590, .int 123 0, .int 4 0, .int 0 0, .int 0 0, .int 3 0, .ref 276, .bool true, .int 181 0, .ref 277, .none, .ref 278, .ref 279, .ref 280, .int 596 0, .int 123 0, .str "/claim/cut.py" 597], #[]⟩
noncomputable def o270 (P : Params) : Obj := ⟨.none, none, .fields #[.int 80 0, .int 4 0, .ref 225], #[]⟩
noncomputable def o402 : FO [40] := ⟨fun P => ⟨.type "function", none, .func ⟨"type_line", "type_line", _, .stmts _, _, 3, [], .none, .none, .none, .str "adacore.records" 667, none, .ref 344, .none, 0⟩, #[]⟩, fun _ => rfl⟩
noncomputable def o370 (P : Params) : Obj := ⟨.type "tuple", none, .seq #[.str "t" 634] 0, #[]⟩
noncomputable def o304 (P : Params) : Obj := ⟨.type "dict", none, .dict #[kv P "__module__" 536 (.str "adacore.types" 468), kv P "__firstlineno__" 540 (.int 105 539), kv P "__init__" 549 (.ref 247), kv P "__static_attributes__" 552 (.ref 248), kv P "__dict__" 554 (.ref 251), kv P "__weakref__" 556 (.ref 252), kv P "__doc__" 557 .none] 4, #[]⟩
noncomputable def o316 : FO [24] := ⟨fun P => ⟨.type "function", none, .func ⟨"base_bounds", "base_bounds", _, .stmts _, _, 3, [], .none, .none, .none, .str "adacore.types" 468, none, .ref 260, .none, 0⟩, #[]⟩, fun _ => rfl⟩
noncomputable def o250 : FO [17] := ⟨fun P => ⟨.type "function", none, .func ⟨"slide_array", "slide_array", _, .stmts _, _, 3, [], .none, .none, .none, .str "adacore.arrays" 416, none, .ref 196, .none, 0⟩, #[]⟩, fun _ => rfl⟩
noncomputable def o382 (P : Params) : Obj := ⟨.type "tuple", none, .seq #[] 0, #[]⟩
noncomputable def o350 (P : Params) : Obj := ⟨.type "tuple", none, .seq #[] 0, #[]⟩
noncomputable def o282 (P : Params) : Obj := ⟨.type "type", none, .cls ⟨"Type", [.type "object"], [.ref 229, .type "object"], 228, "Type", true, [], [], false, none, false⟩, #[none, none, (some (.str "Type" 476)), (some (.str "Type" 484)), (some (.builtin "object.__new__")), (some (.bool true))]⟩
noncomputable def o414 : FO [42] := ⟨fun P => ⟨.none, none, .func ⟨"chosen_alternative", "chosen_alternative", _, .stmts _, _, 0, [], .none, .none, .none, .none, none, .none, .none, 0⟩, #[]⟩, fun _ => rfl⟩
noncomputable def o332 (P : Params) : Obj := ⟨.none, none, .fields #[], #[]⟩
noncomputable def o266 (P : Params) : Obj := ⟨.type "tuple", none, .seq #[] 0, #[]⟩
noncomputable def o398 (P : Params) : Obj := ⟨.type "tuple", none, .seq #[.str "t" 674, .str "found" 675, .str "here" 676] 0, #[]⟩
noncomputable def o366 (P : Params) : Obj := ⟨.type "code", none, .fields #[.str "is_scalar" 624, .str "is_scalar" 625, .str "/claim/cut.py" 626, .int 139 0, .int 1 0, .int 0 0, .int 0 0, .int 3 0, .ref 304, .bool true, .int 181 0, .ref 305, .none, .ref 306, .ref 307, .ref 308, .int 628 0, .int 139 0, .str "/claim/cut.py" 629], #[]⟩
noncomputable def o300 : FO [23, 0] := ⟨fun P => ⟨.none, none, .func ⟨"__init__", "Subtype.__init__", _, .stmts _, _, 0, [], .none, .none, .none, .none, none, .none, .none, 0⟩, #[]⟩, fun _ => rfl⟩
noncomputable def o324 (P : Params) : Obj := ⟨.type "tuple", none, .seq #[] 0, #[]⟩
noncomputable def o258 (P : Params) : Obj := ⟨.type "tuple", none, .seq #[] 0, #[]⟩
noncomputable def o390 (P : Params) : Obj := ⟨.none, none, .fields #[], #[]⟩
noncomputable def o358 : FO [30] := ⟨fun P => ⟨.none, none, .func ⟨"same_type", "same_type", _, .stmts _, _, 0, [], .none, .none, .none, .none, none, .none, .none, 0⟩, #[]⟩, fun _ => rfl⟩
noncomputable def o292 (P : Params) : Obj := ⟨.type "tuple", none, .seq #[] 0, #[]⟩
noncomputable def o422 (P : Params) : Obj := ⟨.type "code", none, .fields #[.str "variant_parts" 700, .str "variant_parts" 701, .str "/claim/cut.py" 702, .int 185 0, .int 2 0, .int 0 0, .int 0 0, .int 3 0, .ref 360, .bool true, .int 181 0, .ref 361, .none, .ref 362, .ref 363, .ref 364, .int 708 0, .int 185 0, .str "/claim/cut.py" 709], #[]⟩
noncomputable def o340 (P : Params) : Obj := ⟨.type "tuple", none, .seq #[.str "name" 602, .str "designated" 603, .str "made" 604] 0, #[]⟩
noncomputable def o274 (P : Params) : Obj := ⟨.none, none, .fields #[], #[]⟩
noncomputable def o406 (P : Params) : Obj := ⟨.type "tuple", none, .seq #[] 0, #[]⟩
noncomputable def o242 (P : Params) : Obj := ⟨.none, none, .fields #[], #[]⟩
noncomputable def o374 : FO [32] := ⟨fun P => ⟨.type "function", none, .func ⟨"is_numeric", "is_numeric", _, .stmts _, _, 3, [], .none, .none, .none, .str "adacore.types" 468, none, .ref 316, .none, 0⟩, #[]⟩, fun _ => rfl⟩
noncomputable def o308 (P : Params) : Obj := ⟨.type "super", none, .fields #[.ref 250, .ref 250, .ref 250], #[]⟩
noncomputable def o311 (P : Params) : Obj := ⟨.none, none, .fields #[], #[]⟩
noncomputable def o245 : FO [16] := ⟨fun P => ⟨.type "function", none, .func ⟨"check_lengths", "check_lengths", _, .stmts _, _, 3, [], .none, .none, .none, .str "adacore.arrays" 416, none, .ref 191, .none, 0⟩, #[]⟩, fun _ => rfl⟩
noncomputable def o377 (P : Params) : Obj := ⟨.type "tuple", none, .seq #[.str "width" 641, .str "low" 642, .str "high" 643] 0, #[]⟩
noncomputable def o343 (P : Params) : Obj := ⟨.type "code", none, .fields #[.str "access_type" 599, .str "access_type" 600, .str "/claim/cut.py" 601, .int 130 0, .int 2 0, .int 0 0, .int 0 0, .int 3 0, .ref 283, .bool true, .int 181 0, .ref 284, .none, .ref 285, .ref 286, .ref 287, .int 605 0, .int 130 0, .str "/claim/cut.py" 606], #[]⟩
noncomputable def o277 : FO [22, 0] := ⟨fun P => ⟨.none, none, .func ⟨"__init__", "Type.__init__", _, .stmts _, _, 0, [], .none, .none, .none, .none, none, .none, .none, 0⟩, #[]⟩, fun _ => rfl⟩
noncomputable def o409 : FO [41] := ⟨fun P => ⟨.type "function", none, .func ⟨"covers_choice", "covers_choice", _, .stmts _, _, 3, [], .none, .none, .none, .str "adacore.records" 667, none, .ref 351, .none, 0⟩, #[]⟩, fun _ => rfl⟩
noncomputable def o327 (P : Params) : Obj := ⟨.type "tuple", none, .seq #[] 0, #[]⟩
noncomputable def o261 (P : Params) : Obj := ⟨.type "tuple", none, .seq #[] 0, #[]⟩
noncomputable def o393 : FO [37] := ⟨fun P => ⟨.none, none, .func ⟨"full_type", "full_type", _, .stmts _, _, 0, [], .none, .none, .none, .none, none, .none, .none, 0⟩, #[]⟩, fun _ => rfl⟩
noncomputable def o361 (P : Params) : Obj := ⟨.type "tuple", none, .seq #[] 0, #[]⟩
noncomputable def o295 (P : Params) : Obj := ⟨.type "frame", none, .plain, #[(some (.ref 239)), (some (.ref 3)), (some (.ref 236)), none, (some (.str "adacore.types" 468)), none, (some (.ref 0))]⟩
noncomputable def o319 (P : Params) : Obj := ⟨.type "tuple", none, .seq #[.str "name" 570, .str "low" 571, .str "high" 572, .str "made" 573] 0, #[]⟩
noncomputable def o253 (P : Params) : Obj := ⟨.type "tuple", none, .seq #[.str "value" 450, .str "bounds" 451] 0, #[]⟩
noncomputable def o385 (P : Params) : Obj := ⟨.type "tuple", none, .seq #[] 0, #[]⟩
noncomputable def o353 : FO [29] := ⟨fun P => ⟨.type "function", none, .func ⟨"numbered", "numbered", _, .stmts _, _, 3, [], .none, .none, .none, .str "adacore.types" 468, none, .ref 295, .none, 0⟩, #[]⟩, fun _ => rfl⟩
noncomputable def o285 (P : Params) : Obj := ⟨.type "super", none, .fields #[.ref 229, .ref 229, .ref 229], #[]⟩
noncomputable def o417 (P : Params) : Obj := ⟨.type "tuple", none, .seq #[] 0, #[]⟩
noncomputable def o335 : FO [27] := ⟨fun P => ⟨.none, none, .func ⟨"record_type", "record_type", _, .stmts _, _, 0, [], .none, .none, .none, .none, none, .none, .none, 0⟩, #[]⟩, fun _ => rfl⟩
noncomputable def o269 (P : Params) : Obj := ⟨.type "tuple", none, .seq #[] 0, #[]⟩
noncomputable def o401 (P : Params) : Obj := ⟨.type "code", none, .fields #[.str "type_line" 671, .str "type_line" 672, .str "/claim/cut.py" 673, .int 163 0, .int 1 0, .int 0 0, .int 0 0, .int 3 0, .ref 339, .bool true, .int 181 0, .ref 340, .none, .ref 341, .ref 342, .ref 343, .int 677 0, .int 163 0, .str "/claim/cut.py" 678], #[]⟩
noncomputable def o369 (P : Params) : Obj := ⟨.none, none, .fields #[], #[]⟩
noncomputable def o303 (P : Params) : Obj := ⟨.type "tuple", none, .seq #[.str "constraint" 550, .str "type" 551] 0, #[]⟩
noncomputable def o346 (P : Params) : Obj := ⟨.none, none, .fields #[.int 2 0, .int 0 0, .ref 20, .int 7 0, .int 0 0, .ref 40, .int 12 0, .int 0 0, .ref 59, .int 20 0, .int 0 0, .ref 78, .int 24 0, .int 0 0, .ref 99, .int 30 0, .int 0 0, .ref 120, .int 35 0, .int 0 0, .ref 141, .int 40 0, .int 0 0, .ref 162, .int 44 0, .int 0 0, .ref 167, .int 53 0, .int 0 0, .ref 172, .int 57 0, .int 0 0, .ref 179, .int 59 0, .int 0 0, .ref 186, .int 61 0, .int 0 0, .ref 191, .int 64 0, .int 0 0, .ref 196, .int 67 0, .int 0 0, .ref 203, .int 70 0, .int 0 0, .ref 210, .int 78 0, .int 0 0, .ref 218, .int 105 0, .int 0 0, .ref 239, .int 110 0, .int 0 0, .ref 260, .int 112 0, .int 0 0, .ref 267, .int 117 0, .int 0 0, .ref 274, .int 123 0, .int 0 0, .ref 281, .int 130 0, .int 0 0, .ref 288, .int 134 0, .int 0 0, .ref 295, .int 137 0, .int 0 0, .ref 302, .int 139 0, .int 0 0, .ref 309, .int 141 0, .int 0 0, .ref 316, .int 143 0, .int 0 0, .ref 323, .int 148 0, .int 0 0, .ref 330, .int 157 0, .int 0 0, .ref 337, .int 163 0, .int 0 0, .ref 344, .int 172 0, .int 0 0, .ref 351, .int 179 0, .int 0 0, .ref 358, .int 185 0, .int 0 0, .ref 365], #[]⟩
noncomputable def o315 (P : Params) : Obj := ⟨.type "code", none, .fields #[.str "base_bounds" 560, .str "base_bounds" 561, .str "/claim/cut.py" 562, .int 110 0, .int 1 0, .int 0 0, .int 0 0, .int 3 0, .ref 255, .bool true, .int 181 0, .ref 256, .none, .ref 257, .ref 258, .ref 259, .int 564 0, .int 110 0, .str "/claim/cut.py" 565], #[]⟩
noncomputable def o249 (P : Params) : Obj := ⟨.type "code", none, .fields #[.str "slide_array" 441, .str "slide_array" 442, .str "/claim/cut.py" 443, .int 64 0, .int 2 0, .int 0 0, .int 0 0, .int 3 0, .ref 193, .bool true, .int 181 0, .ref 194, .none, .none, .none, .ref 195, .int 444 0, .int 64 0, .str "/claim/cut.py" 445], #[]⟩
noncomputable def o381 : FO [33] := ⟨fun P => ⟨.type "function", none, .func ⟨"integer_type", "integer_type", _, .stmts _, _, 3, [], .none, .none, .none, .str "adacore.types" 468, none, .ref 323, .none, 0⟩, #[]⟩, fun _ => rfl⟩
noncomputable def o349 (P : Params) : Obj := ⟨.type "tuple", none, .seq #[.str "t" 611, .str "number" 612] 0, #[]⟩
noncomputable def o281 (P : Params) : Obj := ⟨.type "dict", none, .dict #[kv P "__module__" 483 (.str "adacore.types" 468), kv P "__firstlineno__" 487 (.int 78 486), kv P "__init__" 496 (.ref 226), kv P "__static_attributes__" 521 (.ref 227), kv P "__dict__" 523 (.ref 230), kv P "__weakref__" 525 (.ref 231), kv P "__doc__" 526 .none] 4, #[]⟩
noncomputable def o413 (P : Params) : Obj := ⟨.type "tuple", none, .seq #[] 0, #[]⟩
noncomputable def o331 (P : Params) : Obj := ⟨.type "tuple", none, .seq #[] 0, #[]⟩
noncomputable def o265 (P : Params) : Obj := ⟨.type "tuple", none, .seq #[.str "enum" 470, .str "int" 471, .str "mod" 472, .str "fixed" 473, .str "universal" 474] 0, #[]⟩
noncomputable def o397 (P : Params) : Obj := ⟨.none, none, .fields #[], #[]⟩
noncomputable def o365 : FO [31] := ⟨fun P => ⟨.none, none, .func ⟨"is_scalar", "is_scalar", _, .stmts _, _, 0, [], .none, .none, .none, .none, none, .none, .none, 0⟩, #[]⟩, fun _ => rfl⟩
noncomputable def o299 (P : Params) : Obj := ⟨.type "tuple", none, .seq #[] 0, #[]⟩
noncomputable def o323 : FO [25] := ⟨fun P => ⟨.type "function", none, .func ⟨"int_type", "int_type", _, .stmts _, _, 3, [], .none, .none, .none, .str "adacore.types" 468, none, .ref 267, .none, 0⟩, #[]⟩, fun _ => rfl⟩
noncomputable def o257 : FO [18] := ⟨fun P => ⟨.type "function", none, .func ⟨"check_index_bounds", "check_index_bounds", _, .stmts _, _, 3, [], .none, .none, .none, .str "adacore.arrays" 416, none, .ref 203, .none, 0⟩, #[]⟩, fun _ => rfl⟩
noncomputable def o389 (P : Params) : Obj := ⟨.type "tuple", none, .seq #[] 0, #[]⟩
noncomputable def o357 (P : Params) : Obj := ⟨.type "tuple", none, .seq #[] 0, #[]⟩
noncomputable def o291 (P : Params) : Obj := ⟨.type "dict", none, .dict #[kv P "__module__" 536 (.str "adacore.types" 468), kv P "__qualname__" 538 (.str "Subtype" 537), kv P "__firstlineno__" 540 (.int 105 539), kv P "__init__" 549 (.ref 247), kv P "__static_attributes__" 552 (.ref 248)] 5, #[]⟩
noncomputable def o421 : FO [43] := ⟨fun P => ⟨.none, none, .func ⟨"variant_parts", "variant_parts", _, .stmts _, _, 0, [], .none, .none, .none, .none, none, .none, .none, 0⟩, #[]⟩, fun _ => rfl⟩
noncomputable def o339 (P : Params) : Obj := ⟨.none, none, .fields #[], #[]⟩
noncomputable def o273 (P : Params) : Obj := ⟨.type "tuple", none, .seq #[] 0, #[]⟩
noncomputable def o405 (P : Params) : Obj := ⟨.type "tuple", none, .seq #[.str "choices" 683, .str "value" 684, .str "low" 685, .str "high" 686] 0, #[]⟩
noncomputable def o241 (P : Params) : Obj := ⟨.type "tuple", none, .seq #[] 0, #[]⟩
noncomputable def o373 (P : Params) : Obj := ⟨.type "code", none, .fields #[.str "is_numeric" 631, .str "is_numeric" 632, .str "/claim/cut.py" 633, .int 141 0, .int 1 0, .int 0 0, .int 0 0, .int 3 0, .ref 311, .bool true, .int 181 0, .ref 312, .none, .ref 313, .ref 314, .ref 315, .int 635 0, .int 141 0, .str "/claim/cut.py" 636], #[]⟩
noncomputable def o307 (P : Params) : Obj := ⟨.type "getset_descriptor", none, .fields #[.str "__weakref__" 555, .ref 250, .builtin "ExceptionGroup.__weakref__", .none], #[]⟩
noncomputable def o313 (P : Params) : Obj := ⟨.type "tuple", none, .seq #[] 0, #[]⟩
noncomputable def o247 (P : Params) : Obj := ⟨.none, none, .fields #[], #[]⟩
noncomputable def o379 : FO [33] := ⟨fun P => ⟨.none, none, .func ⟨"integer_type", "integer_type", _, .stmts _, _, 0, [], .none, .none, .none, .none, none, .none, .none, 0⟩, #[]⟩, fun _ => rfl⟩
noncomputable def o347 (P : Params) : Obj := ⟨.type "tuple", none, .seq #[] 0, #[]⟩
noncomputable def o279 : FO [22, 0] := ⟨fun P => ⟨.type "function", none, .func ⟨"__init__", "Type.__init__", _, .stmts _, _, 3, [], .none, .none, .none, .str "adacore.types" 468, none, .ref 225, .none, 0⟩, #[]⟩, fun _ => rfl⟩
noncomputable def o411 (P : Params) : Obj := ⟨.none, none, .fields #[], #[]⟩
noncomputable def o329 (P : Params) : Obj := ⟨.type "code", none, .fields #[.str "array_type" 577, .str "array_type" 578, .str "/claim/cut.py" 579, .int 117 0, .int 4 0, .int 0 0, .int 0 0, .int 3 0, .ref 269, .bool true, .int 181 0, .ref 270, .none, .ref 271, .ref 272, .ref 273, .int 585 0, .int 117 0, .str "/claim/cut.py" 586], #[]⟩
noncomputable def o263 (P : Params) : Obj := ⟨.type "code", none, .fields #[.str "check_index_ranges" 455, .str "check_index_ranges" 456, .str "/claim/cut.py" 457, .int 70 0, .int 2 0, .int 0 0, .int 0 0, .int 3 0, .ref 205, .bool true, .int 181 0, .ref 206, .none, .ref 207, .ref 208, .ref 209, .int 465 0, .int 70 0, .str "/claim/cut.py" 466], #[]⟩
noncomputable def o395 : FO [37] := ⟨fun P => ⟨.type "function", none, .func ⟨"full_type", "full_type", _, .stmts _, _, 3, [], .none, .none, .none, .str "adacore.fulltypes" 647, none, .ref 337, .none, 0⟩, #[]⟩, fun _ => rfl⟩
noncomputable def o363 (P : Params) : Obj := ⟨.type "tuple", none, .seq #[.str "t" 627] 0, #[]⟩
noncomputable def o297 (P : Params) : Obj := ⟨.none, none, .fields #[], #[]⟩
noncomputable def o321 : FO [25] := ⟨fun P => ⟨.none, none, .func ⟨"int_type", "int_type", _, .stmts _, _, 0, [], .none, .none, .none, .none, none, .none, .none, 0⟩, #[]⟩, fun _ => rfl⟩
noncomputable def o255 : FO [18] := ⟨fun P => ⟨.none, none, .func ⟨"check_index_bounds", "check_index_bounds", _, .stmts _, _, 0, [], .none, .none, .none, .none, none, .none, .none, 0⟩, #[]⟩, fun _ => rfl⟩
noncomputable def o387 (P : Params) : Obj := ⟨.type "code", none, .fields #[.str "full_subtype" 651, .str "full_subtype" 652, .str "/claim/cut.py" 653, .int 148 0, .int 1 0, .int 0 0, .int 0 0, .int 3 0, .ref 325, .bool true, .int 181 0, .ref 326, .none, .ref 327, .ref 328, .ref 329, .int 657 0, .int 148 0, .str "/claim/cut.py" 658], #[]⟩
noncomputable def o355 (P : Params) : Obj := ⟨.none, none, .fields #[], #[]⟩
noncomputable def o289 (P : Params) : Obj := ⟨.type "tuple", none, .seq #[] 0, #[]⟩
noncomputable def o419 (P : Params) : Obj := ⟨.type "tuple", none, .seq #[.str "variant" 703, .str "discs" 704, .str "found" 705, .str "here" 706, .str "alternative" 707] 0, #[]⟩
noncomputable def o337 : FO [27] := ⟨fun P => ⟨.type "function", none, .func ⟨"record_type", "record_type", _, .stmts _, _, 3, [], .none, .none, .none, .str "adacore.types" 468, none, .ref 281, .none, 0⟩, #[]⟩, fun _ => rfl⟩
noncomputable def o271 (P : Params) : Obj := ⟨.type "code", none, .fields #[.str "Type" 478, .str "Type" 479, .str "/claim/cut.py" 480, .int 78 0, .int 0 0, .int 0 0, .int 0 0, .int 0 0, .ref 216, .bool false, .int 181 0, .ref 217, .none, .none, .none, .none, .int 481 0, .int 78 0, .str "/claim/cut.py" 482], #[]⟩
noncomputable def o403 (P : Params) : Obj := ⟨.type "tuple", none, .seq #[] 0, #[]⟩
noncomputable def o371 (P : Params) : Obj := ⟨.type "tuple", none, .seq #[] 0, #[]⟩
noncomputable def o305 (P : Params) : Obj := ⟨.type "type", none, .cls ⟨"Subtype", [.type "object"], [.ref 250, .type "object"], 249, "Subtype", true, [], [], false, none, false⟩, #[none, none, (some (.str "Subtype" 529)), (some (.str "Subtype" 537)), (some (.builtin "object.__new__")), (some (.bool true))]⟩
noncomputable def o317 (P : Params) : Obj := ⟨.type "tuple", none, .seq #[] 0, #[]⟩
noncomputable def o251 (P : Params) : Obj := ⟨.type "tuple", none, .seq #[] 0, #[]⟩
noncomputable def o383 (P : Params) : Obj := ⟨.none, none, .fields #[], #[]⟩
noncomputable def o351 : FO [29] := ⟨fun P => ⟨.none, none, .func ⟨"numbered", "numbered", _, .stmts _, _, 0, [], .none, .none, .none, .none, none, .none, .none, 0⟩, #[]⟩, fun _ => rfl⟩
noncomputable def o283 (P : Params) : Obj := ⟨.type "getset_descriptor", none, .fields #[.str "__dict__" 522, .ref 229, .builtin "function.__dict__", .builtin "function.__dict__#set"], #[]⟩
noncomputable def o415 (P : Params) : Obj := ⟨.type "code", none, .fields #[.str "chosen_alternative" 690, .str "chosen_alternative" 691, .str "/claim/cut.py" 692, .int 179 0, .int 2 0, .int 0 0, .int 0 0, .int 3 0, .ref 353, .bool true, .int 181 0, .ref 354, .none, .ref 355, .ref 356, .ref 357, .int 697 0, .int 179 0, .str "/claim/cut.py" 698], #[]⟩
noncomputable def o333 (P : Params) : Obj := ⟨.type "tuple", none, .seq #[.str "name" 591, .str "discriminants" 592, .str "components" 593, .str "variant" 594, .str "made" 595] 0, #[]⟩
noncomputable def o267 (P : Params) : Obj := ⟨.type "builtin_function_or_method", none, .fields #[.builtin "type.__prepare__", .type "type"], #[]⟩
noncomputable def o399 (P : Params) : Obj := ⟨.type "tuple", none, .seq #[] 0, #[]⟩
noncomputable def o367 : FO [31] := ⟨fun P => ⟨.type "function", none, .func ⟨"is_scalar", "is_scalar", _, .stmts _, _, 3, [], .none, .none, .none, .str "adacore.types" 468, none, .ref 309, .none, 0⟩, #[]⟩, fun _ => rfl⟩
noncomputable def o301 (P : Params) : Obj := ⟨.type "code", none, .fields #[.str "__init__" 541, .str "Subtype.__init__" 542, .str "/claim/cut.py" 543, .int 107 0, .int 3 0, .int 0 0, .int 0 0, .int 3 0, .ref 241, .bool true, .int 181 0, .ref 242, .none, .ref 243, .ref 244, .ref 245, .int 547 0, .int 107 0, .str "/claim/cut.py" 548], #[]⟩
noncomputable def o325 (P : Params) : Obj := ⟨.none, none, .fields #[], #[]⟩
noncomputable def o259 (P : Params) : Obj := ⟨.none, none, .fields #[], #[]⟩
noncomputable def o391 (P : Params) : Obj := ⟨.type "tuple", none, .seq #[.str "t" 663] 0, #[]⟩
noncomputable def o359 (P : Params) : Obj := ⟨.type "code", none, .fields #[.str "same_type" 616, .str "same_type" 617, .str "/claim/cut.py" 618, .int 137 0, .int 2 0, .int 0 0, .int 0 0, .int 3 0, .ref 297, .bool true, .int 181 0, .ref 298, .none, .ref 299, .ref 300, .ref 301, .int 621 0, .int 137 0, .str "/claim/cut.py" 622], #[]⟩
noncomputable def o293 (P : Params) : Obj := ⟨.none, none, .fields #[.int 107 0, .int 4 0, .ref 246], #[]⟩
noncomputable def o423 : FO [43] := ⟨fun P => ⟨.type "function", none, .func ⟨"variant_parts", "variant_parts", _, .stmts _, _, 3, [], .none, .none, .none, .str "adacore.records" 667, none, .ref 365, .none, 0⟩, #[]⟩, fun _ => rfl⟩
noncomputable def o341 (P : Params) : Obj := ⟨.type "tuple", none, .seq #[] 0, #[]⟩
noncomputable def o275 (P : Params) : Obj := ⟨.type "tuple", none, .seq #[.str "self" 491, .str "kind" 492, .str "name" 493] 0, #[]⟩
noncomputable def o407 : FO [41] := ⟨fun P => ⟨.none, none, .func ⟨"covers_choice", "covers_choice", _, .stmts _, _, 0, [], .none, .none, .none, .none, none, .none, .none, 0⟩, #[]⟩, fun _ => rfl⟩
noncomputable def o243 : FO [16] := ⟨fun P => ⟨.none, none, .func ⟨"check_lengths", "check_lengths", _, .stmts _, _, 0, [], .none, .none, .none, .none, none, .none, .none, 0⟩, #[]⟩, fun _ => rfl⟩
noncomputable def o375 (P : Params) : Obj := ⟨.type "tuple", none, .seq #[] 0, #[]⟩
noncomputable def o309 (P : Params) : Obj := ⟨.type "builtin_function_or_method", none, .fields #[.builtin "object.__init_subclass__", .ref 250], #[]⟩
noncomputable def o510 (P : Params) : Obj := ⟨.type "dict", none, .dict #[kv P "__name__" 165 (.str "adacore.nodevalues" 873), kv P "__doc__" 166 .none, kv P "__package__" 167 .none, kv P "__loader__" 168 (.builtin "__main__.__loader__#opaque"), kv P "__spec__" 169 .none, kv P "__annotations__" 170 (.ref 6), kv P "__builtins__" 171 (.ref 4), kv P "__file__" 173 (.str "/claim/cut.py" 172), kv P "__cached__" 174 .none, kv P "AdaError" 217 (.ref 31), kv P "CheckFault" 243 (.ref 51), kv P "AdaRaise" 272 (.ref 70), kv P "Unset" 302 (.ref 89), kv P "Cell" 334 (.ref 110), kv P "ArrayValue" 365 (.ref 131), kv P "RecordValue" 396 (.ref 152), kv P "need_set" 403 (.ref 163), kv P "copy_value" 409 (.ref 168), kv P "lengths_of" 415 (.ref 173), kv P "OTHERS" 419 (.str "others" 418), kv P "raise_constraint" 426 (.ref 180), kv P "dim_length" 434 (.ref 187), kv P "check_lengths" 440 (.ref 192), kv P "slide_array" 446 (.ref 197), kv P "check_index_bounds" 454 (.ref 204), kv P "check_index_ranges" 467 (.ref 211), kv P "SCALAR_KINDS" 475 (.ref 212), kv P "Type" 528 (.ref 229), kv P "Subtype" 559 (.ref 250), kv P "base_bounds" 566 (.ref 261), kv P "int_type" 576 (.ref 268), kv P "array_type" 587 (.ref 275), kv P "record_type" 598 (.ref 282), kv P "access_type" 607 (.ref 289), kv P "numbered" 615 (.ref 296), kv P "same_type" 623 (.ref 303), kv P "is_scalar" 630 (.ref 310), kv P "is_numeric" 637 (.ref 317), kv P "integer_type" 646 (.ref 324), kv P "MOST_PRIVATE" 650 (.int 41 649), kv P "full_subtype" 659 (.ref 331), kv P "full_type" 666 (.ref 338), kv P "MOST_LINE" 670 (.int 40 669), kv P "type_line" 679 (.ref 345), kv P "covers_choice" 689 (.ref 352), kv P "chosen_alternative" 699 (.ref 359), kv P "variant_parts" 710 (.ref 366), kv P "ahead_of_variant" 717 (.ref 373), kv P "present_parts" 726 (.ref 380), kv P "discs_in" 737 (.ref 387), kv P "check_discs" 747 (.ref 394), kv P "ancestor_view" 760 (.ref 401), kv P "is_in_line" 768 (.ref 408), kv P "own_part" 776 (.ref 415), kv P "refuse" 785 (.ref 422), kv P "bounds_of" 792 (.ref 429), kv P "in_bounds" 801 (.ref 436), kv P "is_member" 811 (.ref 443), kv P "check_range" 819 (.ref 450), kv P "check_base" 827 (.ref 457), kv P "rounded_quotient" 836 (.ref 464), kv P "cut_toward_zero" 845 (.ref 471), kv P "small_of" 852 (.ref 478), kv P "converted" 863 (.ref 485), kv P "convert_to" 872 (.ref 492), kv P "line_head" 881 (.ref 499), kv P "asks_tag" 888 (.ref 506), kv P "check_line" 896 (.ref 513), kv P "qual_value" 905 (.ref 520), kv P "index_ranges" 911 (.ref 525), kv P "fixed_bounds" 918 (.ref 532), kv P "array_fitted" 927 (.ref 539)] 72, #[]⟩
noncomputable def o572 : FO [66] := ⟨fun P => ⟨.none, none, .func ⟨"check_line", "check_line", _, .stmts _, _, 0, [], .none, .none, .none, .none, none, .none, .none, 0⟩, #[]⟩, fun _ => rfl⟩
noncomputable def o442 (P : Params) : Obj := ⟨.type "tuple", none, .seq #[.str "value" 730, .str "found" 731, .str "name" 732, .str "subtype" 733, .str "default" 734] 0, #[]⟩
noncomputable def o506 (P : Params) : Obj := ⟨.type "tuple", none, .seq #[] 0, #[]⟩
noncomputable def o474 : FO [50] := ⟨fun P => ⟨.type "function", none, .func ⟨"own_part", "own_part", _, .stmts _, _, 3, [], .none, .none, .none, .str "adacore.records" 667, none, .ref 414, .none, 0⟩, #[]⟩, fun _ => rfl⟩
noncomputable def o540 (P : Params) : Obj := ⟨.type "tuple", none, .seq #[] 0, #[]⟩
noncomputable def o588 (P : Params) : Obj := ⟨.none, none, .fields #[], #[]⟩
noncomputable def o458 : FO [48] := ⟨fun P => ⟨.none, none, .func ⟨"ancestor_view", "ancestor_view", _, .stmts _, _, 0, [], .none, .none, .none, .none, none, .none, .none, 0⟩, #[]⟩, fun _ => rfl⟩
noncomputable def o524 (P : Params) : Obj := ⟨.type "code", none, .fields #[.str "rounded_quotient" 828, .str "rounded_quotient" 829, .str "/claim/cut.py" 830, .int 247 0, .int 2 0, .int 0 0, .int 0 0, .int 3 0, .ref 458, .bool true, .int 181 0, .ref 459, .none, .ref 460, .ref 461, .ref 462, .int 834 0, .int 247 0, .str "/claim/cut.py" 835], #[]⟩
noncomputable def o490 (P : Params) : Obj := ⟨.none, none, .fields #[], #[]⟩
noncomputable def o426 (P : Params) : Obj := ⟨.type "tuple", none, .seq #[] 0, #[]⟩
noncomputable def o556 (P : Params) : Obj := ⟨.type "tuple", none, .seq #[.str "t" 878] 0, #[]⟩
noncomputable def o580 (P : Params) : Obj := ⟨.type "code", none, .fields #[.str "qual_value" 897, .str "qual_value" 898, .str "/claim/cut.py" 899, .int 277 0, .int 2 0, .int 0 0, .int 0 0, .int 3 0, .ref 514, .bool true, .int 181 0, .ref 515, .none, .ref 516, .ref 517, .ref 518, .int 903 0, .int 277 0, .str "/claim/cut.py" 904], #[]⟩
noncomputable def o450 (P : Params) : Obj := ⟨.type "tuple", none, .seq #[] 0, #[]⟩
noncomputable def o516 : FO [57] := ⟨fun P => ⟨.none, none, .func ⟨"check_base", "check_base", _, .stmts _, _, 0, [], .none, .none, .none, .none, none, .none, .none, 0⟩, #[]⟩, fun _ => rfl⟩
noncomputable def o482 (P : Params) : Obj := ⟨.type "tuple", none, .seq #[] 0, #[]⟩
noncomputable def o548 (P : Params) : Obj := ⟨.none, none, .fields #[], #[]⟩
noncomputable def o596 (P : Params) : Obj := ⟨.type "tuple", none, .seq #[.str "subtype" 922, .str "value" 923, .str "bounds" 924] 0, #[]⟩
noncomputable def o466 (P : Params) : Obj := ⟨.type "code", none, .fields #[.str "is_in_line" 761, .str "is_in_line" 762, .str "/claim/cut.py" 763, .int 221 0, .int 2 0, .int 0 0, .int 0 0, .int 3 0, .ref 402, .bool true, .int 181 0, .ref 403, .none, .ref 404, .ref 405, .ref 406, .int 766 0, .int 221 0, .str "/claim/cut.py" 767], #[]⟩
noncomputable def o532 : FO [59] := ⟨fun P => ⟨.type "function", none, .func ⟨"cut_toward_zero", "cut_toward_zero", _, .stmts _, _, 3, [], .none, .none, .none, .str "adacore.scalars" 777, none, .ref 470, .none, 0⟩, #[]⟩, fun _ => rfl⟩
noncomputable def o498 (P : Params) : Obj := ⟨.type "tuple", none, .seq #[.str "subtype" 805, .str "value" 806, .str "low" 807, .str "high" 808] 0, #[]⟩
noncomputable def o434 (P : Params) : Obj := ⟨.none, none, .fields #[], #[]⟩
noncomputable def o564 (P : Params) : Obj := ⟨.type "tuple", none, .seq #[] 0, #[]⟩
noncomputable def o576 (P : Params) : Obj := ⟨.none, none, .fields #[], #[]⟩
noncomputable def o446 : FO [46] := ⟨fun P => ⟨.type "function", none, .func ⟨"discs_in", "discs_in", _, .stmts _, _, 3, [], .none, .none, .none, .str "adacore.records" 667, none, .ref 386, .none, 0⟩, #[]⟩, fun _ => rfl⟩
noncomputable def o512 (P : Params) : Obj := ⟨.type "tuple", none, .seq #[] 0, #[]⟩
noncomputable def o478 (P : Params) : Obj := ⟨.type "tuple", none, .seq #[] 0, #[]⟩
noncomputable def o544 : FO [61] := ⟨fun P => ⟨.none, none, .func ⟨"converted", "converted", _, .stmts _, _, 0, [], .none, .none, .none, .none, none, .none, .none, 0⟩, #[]⟩, fun _ => rfl⟩
noncomputable def o592 (P : Params) : Obj := ⟨.type "code", none, .fields #[.str "fixed_bounds" 912, .str "fixed_bounds" 913, .str "/claim/cut.py" 914, .int 291 0, .int 1 0, .int 0 0, .int 0 0, .int 3 0, .ref 526, .bool true, .int 181 0, .ref 527, .none, .ref 528, .ref 529, .ref 530, .int 916 0, .int 291 0, .str "/claim/cut.py" 917], #[]⟩
noncomputable def o462 (P : Params) : Obj := ⟨.none, none, .fields #[], #[]⟩
noncomputable def o528 (P : Params) : Obj := ⟨.type "tuple", none, .seq #[.str "num" 840, .str "den" 841, .str "q" 842] 0, #[]⟩
noncomputable def o494 (P : Params) : Obj := ⟨.type "code", none, .fields #[.str "in_bounds" 793, .str "in_bounds" 794, .str "/claim/cut.py" 795, .int 234 0, .int 3 0, .int 0 0, .int 0 0, .int 3 0, .ref 430, .bool true, .int 181 0, .ref 431, .none, .ref 432, .ref 433, .ref 434, .int 799 0, .int 234 0, .str "/claim/cut.py" 800], #[]⟩
noncomputable def o430 : FO [44] := ⟨fun P => ⟨.none, none, .func ⟨"ahead_of_variant", "ahead_of_variant", _, .stmts _, _, 0, [], .none, .none, .none, .none, none, .none, .none, 0⟩, #[]⟩, fun _ => rfl⟩
noncomputable def o560 : FO [64] := ⟨fun P => ⟨.type "function", none, .func ⟨"line_head", "line_head", _, .stmts _, _, 3, [], .none, .none, .none, .str "adacore.nodevalues" 873, none, .ref 498, .none, 0⟩, #[]⟩, fun _ => rfl⟩
noncomputable def o584 : FO [68] := ⟨fun P => ⟨.none, none, .func ⟨"index_ranges", "index_ranges", _, .stmts _, _, 0, [], .none, .none, .none, .none, none, .none, .none, 0⟩, #[]⟩, fun _ => rfl⟩
noncomputable def o454 (P : Params) : Obj := ⟨.type "tuple", none, .seq #[] 0, #[]⟩
noncomputable def o520 (P : Params) : Obj := ⟨.none, none, .fields #[], #[]⟩
noncomputable def o486 : FO [53] := ⟨fun P => ⟨.none, none, .func ⟨"bounds_of", "bounds_of", _, .stmts _, _, 0, [], .none, .none, .none, .none, none, .none, .none, 0⟩, #[]⟩, fun _ => rfl⟩
noncomputable def o552 (P : Params) : Obj := ⟨.type "code", none, .fields #[.str "convert_to" 864, .str "convert_to" 865, .str "/claim/cut.py" 866, .int 267 0, .int 3 0, .int 0 0, .int 0 0, .int 3 0, .ref 486, .bool true, .int 181 0, .ref 487, .none, .ref 488, .ref 489, .ref 490, .int 870 0, .int 267 0, .str "/claim/cut.py" 871], #[]⟩
noncomputable def o600 : FO [70] := ⟨fun P => ⟨.type "function", none, .func ⟨"array_fitted", "array_fitted", _, .stmts _, _, 3, [], .none, .none, .none, .str "adacore.nodevalues" 873, none, .ref 538, .none, 0⟩, #[]⟩, fun _ => rfl⟩
noncomputable def o470 (P : Params) : Obj := ⟨.type "tuple", none, .seq #[.str "t" 772, .str "value" 773] 0, #[]⟩
noncomputable def o536 (P : Params) : Obj := ⟨.type "tuple", none, .seq #[] 0, #[]⟩
noncomputable def o502 : FO [55] := ⟨fun P => ⟨.type "function", none, .func ⟨"is_member", "is_member", _, .stmts _, _, 3, [], .none, .none, .none, .str "adacore.scalars" 777, none, .ref 442, .none, 0⟩, #[]⟩, fun _ => rfl⟩
noncomputable def o438 (P : Params) : Obj := ⟨.type "code", none, .fields #[.str "present_parts" 718, .str "present_parts" 719, .str "/claim/cut.py" 720, .int 199 0, .int 2 0, .int 0 0, .int 0 0, .int 3 0, .ref 374, .bool true, .int 181 0, .ref 375, .none, .ref 376, .ref 377, .ref 378, .int 724 0, .int 199 0, .str "/claim/cut.py" 725], #[]⟩
noncomputable def o568 (P : Params) : Obj := ⟨.type "tuple", none, .seq #[] 0, #[]⟩
noncomputable def o574 : FO [66] := ⟨fun P => ⟨.type "function", none, .func ⟨"check_line", "check_line", _, .stmts _, _, 3, [], .none, .none, .none, .str "adacore.nodevalues" 873, none, .ref 512, .none, 0⟩, #[]⟩, fun _ => rfl⟩
noncomputable def o444 : FO [46] := ⟨fun P => ⟨.none, none, .func ⟨"discs_in", "discs_in", _, .stmts _, _, 0, [], .none, .none, .none, .none, none, .none, .none, 0⟩, #[]⟩, fun _ => rfl⟩
noncomputable def o508 (P : Params) : Obj := ⟨.type "code", none, .fields #[.str "check_range" 812, .str "check_range" 813, .str "/claim/cut.py" 814, .int 239 0, .int 2 0, .int 0 0, .int 0 0, .int 3 0, .ref 444, .bool true, .int 181 0, .ref 445, .none, .ref 446, .ref 447, .ref 448, .int 817 0, .int 239 0, .str "/claim/cut.py" 818], #[]⟩
noncomputable def o476 (P : Params) : Obj := ⟨.none, none, .fields #[], #[]⟩
noncomputable def o542 (P : Params) : Obj := ⟨.type "tuple", none, .seq #[.str "target" 856, .str "source" 857, .str "value" 858, .str "num" 859, .str "den" 860] 0, #[]⟩
noncomputable def o590 (P : Params) : Obj := ⟨.type "tuple", none, .seq #[] 0, #[]⟩
noncomputable def o460 : FO [48] := ⟨fun P => ⟨.type "function", none, .func ⟨"ancestor_view", "ancestor_view", _, .stmts _, _, 3, [], .none, .none, .none, .str "adacore.records" 667, none, .ref 400, .none, 0⟩, #[]⟩, fun _ => rfl⟩
noncomputable def o526 (P : Params) : Obj := ⟨.type "tuple", none, .seq #[] 0, #[]⟩
noncomputable def o492 (P : Params) : Obj := ⟨.type "tuple", none, .seq #[] 0, #[]⟩
noncomputable def o428 (P : Params) : Obj := ⟨.type "tuple", none, .seq #[.str "t" 714] 0, #[]⟩
noncomputable def o558 : FO [64] := ⟨fun P => ⟨.none, none, .func ⟨"line_head", "line_head", _, .stmts _, _, 0, [], .none, .none, .none, .none, none, .none, .none, 0⟩, #[]⟩, fun _ => rfl⟩
noncomputable def o582 (P : Params) : Obj := ⟨.type "tuple", none, .seq #[] 0, #[]⟩
noncomputable def o452 (P : Params) : Obj := ⟨.type "code", none, .fields #[.str "check_discs" 738, .str "check_discs" 739, .str "/claim/cut.py" 740, .int 209 0, .int 2 0, .int 0 0, .int 0 0, .int 3 0, .ref 388, .bool true, .int 181 0, .ref 389, .none, .ref 390, .ref 391, .ref 392, .int 745 0, .int 209 0, .str "/claim/cut.py" 746], #[]⟩
noncomputable def o518 : FO [57] := ⟨fun P => ⟨.type "function", none, .func ⟨"check_base", "check_base", _, .stmts _, _, 3, [], .none, .none, .none, .str "adacore.scalars" 777, none, .ref 456, .none, 0⟩, #[]⟩, fun _ => rfl⟩
noncomputable def o484 (P : Params) : Obj := ⟨.type "tuple", none, .seq #[.str "subtype" 789] 0, #[]⟩
noncomputable def o550 (P : Params) : Obj := ⟨.type "tuple", none, .seq #[] 0, #[]⟩
noncomputable def o598 : FO [70] := ⟨fun P => ⟨.none, none, .func ⟨"array_fitted", "array_fitted", _, .stmts _, _, 0, [], .none, .none, .none, .none, none, .none, .none, 0⟩, #[]⟩, fun _ => rfl⟩
noncomputable def o468 (P : Params) : Obj := ⟨.type "tuple", none, .seq #[] 0, #[]⟩
noncomputable def o534 (P : Params) : Obj := ⟨.none, none, .fields #[], #[]⟩
noncomputable def o500 : FO [55] := ⟨fun P => ⟨.none, none, .func ⟨"is_member", "is_member", _, .stmts _, _, 0, [], .none, .none, .none, .none, none, .none, .none, 0⟩, #[]⟩, fun _ => rfl⟩
noncomputable def o436 (P : Params) : Obj := ⟨.type "tuple", none, .seq #[] 0, #[]⟩
noncomputable def o566 (P : Params) : Obj := ⟨.type "code", none, .fields #[.str "asks_tag" 882, .str "asks_tag" 883, .str "/claim/cut.py" 884, .int 272 0, .int 1 0, .int 0 0, .int 0 0, .int 3 0, .ref 500, .bool true, .int 181 0, .ref 501, .none, .ref 502, .ref 503, .ref 504, .int 886 0, .int 272 0, .str "/claim/cut.py" 887], #[]⟩
noncomputable def o578 (P : Params) : Obj := ⟨.type "tuple", none, .seq #[] 0, #[]⟩
noncomputable def o448 (P : Params) : Obj := ⟨.none, none, .fields #[], #[]⟩
noncomputable def o514 (P : Params) : Obj := ⟨.type "tuple", none, .seq #[.str "t" 823, .str "value" 824] 0, #[]⟩
noncomputable def o480 (P : Params) : Obj := ⟨.type "code", none, .fields #[.str "refuse" 779, .str "refuse" 780, .str "/claim/cut.py" 781, .int 228 0, .int 1 0, .int 0 0, .int 0 0, .int 3 0, .ref 416, .bool true, .int 181 0, .ref 417, .none, .ref 418, .ref 419, .ref 420, .int 783 0, .int 228 0, .str "/claim/cut.py" 784], #[]⟩
noncomputable def o546 : FO [61] := ⟨fun P => ⟨.type "function", none, .func ⟨"converted", "converted", _, .stmts _, _, 3, [], .none, .none, .none, .str "adacore.scalars" 777, none, .ref 484, .none, 0⟩, #[]⟩, fun _ => rfl⟩
noncomputable def o594 (P : Params) : Obj := ⟨.type "tuple", none, .seq #[] 0, #[]⟩
noncomputable def o464 (P : Params) : Obj := ⟨.type "tuple", none, .seq #[] 0, #[]⟩
noncomputable def o530 : FO [59] := ⟨fun P => ⟨.none, none, .func ⟨"cut_toward_zero", "cut_toward_zero", _, .stmts _, _, 0, [], .none, .none, .none, .none, none, .none, .none, 0⟩, #[]⟩, fun _ => rfl⟩
noncomputable def o496 (P : Params) : Obj := ⟨.type "tuple", none, .seq #[] 0, #[]⟩
noncomputable def o432 : FO [44] := ⟨fun P => ⟨.type "function", none, .func ⟨"ahead_of_variant", "ahead_of_variant", _, .stmts _, _, 3, [], .none, .none, .none, .str "adacore.records" 667, none, .ref 372, .none, 0⟩, #[]⟩, fun _ => rfl⟩
noncomputable def o562 (P : Params) : Obj := ⟨.none, none, .fields #[], #[]⟩
noncomputable def o586 : FO [68] := ⟨fun P => ⟨.type "function", none, .func ⟨"index_ranges", "index_ranges", _, .stmts _, _, 3, [], .none, .none, .none, .str "adacore.nodevalues" 873, none, .ref 524, .none, 0⟩, #[]⟩, fun _ => rfl⟩
noncomputable def o456 (P : Params) : Obj := ⟨.type "tuple", none, .seq #[.str "value" 751, .str "t" 752, .str "discs" 753, .str "fields" 754, .str "name" 755, .str "subtype" 756, .str "default" 757] 0, #[]⟩
noncomputable def o522 (P : Params) : Obj := ⟨.type "tuple", none, .seq #[] 0, #[]⟩
noncomputable def o488 : FO [53] := ⟨fun P => ⟨.type "function", none, .func ⟨"bounds_of", "bounds_of", _, .stmts _, _, 3, [], .none, .none, .none, .str "adacore.scalars" 777, none, .ref 428, .none, 0⟩, #[]⟩, fun _ => rfl⟩
noncomputable def o554 (P : Params) : Obj := ⟨.type "tuple", none, .seq #[] 0, #[]⟩
noncomputable def o472 : FO [50] := ⟨fun P => ⟨.none, none, .func ⟨"own_part", "own_part", _, .stmts _, _, 0, [], .none, .none, .none, .none, none, .none, .none, 0⟩, #[]⟩, fun _ => rfl⟩
noncomputable def o538 (P : Params) : Obj := ⟨.type "code", none, .fields #[.str "small_of" 846, .str "small_of" 847, .str "/claim/cut.py" 848, .int 257 0, .int 1 0, .int 0 0, .int 0 0, .int 3 0, .ref 472, .bool true, .int 181 0, .ref 473, .none, .ref 474, .ref 475, .ref 476, .int 850 0, .int 257 0, .str "/claim/cut.py" 851], #[]⟩
noncomputable def o504 (P : Params) : Obj := ⟨.none, none, .fields #[], #[]⟩
noncomputable def o440 (P : Params) : Obj := ⟨.type "tuple", none, .seq #[] 0, #[]⟩
noncomputable def o570 (P : Params) : Obj := ⟨.type "tuple", none, .seq #[.str "value" 892, .str "t" 893] 0, #[]⟩
noncomputable def o573 (P : Params) : Obj := ⟨.type "code", none, .fields #[.str "check_line" 889, .str "check_line" 890, .str "/claim/cut.py" 891, .int 274 0, .int 2 0, .int 0 0, .int 0 0, .int 3 0, .ref 507, .bool true, .int 181 0, .ref 508, .none, .ref 509, .ref 510, .ref 511, .int 894 0, .int 274 0, .str "/claim/cut.py" 895], #[]⟩
noncomputable def o443 (P : Params) : Obj := ⟨.type "tuple", none, .seq #[] 0, #[]⟩
noncomputable def o507 : FO [56] := ⟨fun P => ⟨.none, none, .func ⟨"check_range", "check_range", _, .stmts _, _, 0, [], .none, .none, .none, .none, none, .none, .none, 0⟩, #[]⟩, fun _ => rfl⟩
noncomputable def o475 (P : Params) : Obj := ⟨.type "tuple", none, .seq #[] 0, #[]⟩
noncomputable def o541 (P : Params) : Obj := ⟨.none, none, .fields #[], #[]⟩
noncomputable def o589 (P : Params) : Obj := ⟨.type "tuple", none, .seq #[.str "subtype" 915] 0, #[]⟩
noncomputable def o459 (P : Params) : Obj := ⟨.type "code", none, .fields #[.str "ancestor_view" 748, .str "ancestor_view" 749, .str "/claim/cut.py" 750, .int 213 0, .int 2 0, .int 0 0, .int 0 0, .int 3 0, .ref 395, .bool true, .int 181 0, .ref 396, .none, .ref 397, .ref 398, .ref 399, .int 758 0, .int 213 0, .str "/claim/cut.py" 759], #[]⟩
noncomputable def o525 : FO [58] := ⟨fun P => ⟨.type "function", none, .func ⟨"rounded_quotient", "rounded_quotient", _, .stmts _, _, 3, [], .none, .none, .none, .str "adacore.scalars" 777, none, .ref 463, .none, 0⟩, #[]⟩, fun _ => rfl⟩
noncomputable def o491 (P : Params) : Obj := ⟨.type "tuple", none, .seq #[.str "value" 796, .str "low" 797, .str "high" 798] 0, #[]⟩
noncomputable def o427 (P : Params) : Obj := ⟨.none, none, .fields #[], #[]⟩
noncomputable def o557 (P : Params) : Obj := ⟨.type "tuple", none, .seq #[] 0, #[]⟩
noncomputable def o581 : FO [67] := ⟨fun P => ⟨.type "function", none, .func ⟨"qual_value", "qual_value", _, .stmts _, _, 3, [], .none, .none, .none, .str "adacore.nodevalues" 873, none, .ref 519, .none, 0⟩, #[]⟩, fun _ => rfl⟩
noncomputable def o451 : FO [47] := ⟨fun P => ⟨.none, none, .func ⟨"check_discs", "check_discs", _, .stmts _, _, 0, [], .none, .none, .none, .none, none, .none, .none, 0⟩, #[]⟩, fun _ => rfl⟩
noncomputable def o517 (P : Params) : Obj := ⟨.type "code", none, .fields #[.str "check_base" 820, .str "check_base" 821, .str "/claim/cut.py" 822, .int 243 0, .int 2 0, .int 0 0, .int 0 0, .int 3 0, .ref 451, .bool true, .int 181 0, .ref 452, .none, .ref 453, .ref 454, .ref 455, .int 825 0, .int 243 0, .str "/claim/cut.py" 826], #[]⟩
noncomputable def o483 (P : Params) : Obj := ⟨.none, none, .fields #[], #[]⟩
noncomputable def o549 (P : Params) : Obj := ⟨.type "tuple", none, .seq #[.str "subtype" 867, .str "source" 868, .str "value" 869] 0, #[]⟩
noncomputable def o597 (P : Params) : Obj := ⟨.type "tuple", none, .seq #[] 0, #[]⟩
noncomputable def o467 : FO [49] := ⟨fun P => ⟨.type "function", none, .func ⟨"is_in_line", "is_in_line", _, .stmts _, _, 3, [], .none, .none, .none, .str "adacore.records" 667, none, .ref 407, .none, 0⟩, #[]⟩, fun _ => rfl⟩
noncomputable def o533 (P : Params) : Obj := ⟨.type "tuple", none, .seq #[] 0, #[]⟩
noncomputable def o499 (P : Params) : Obj := ⟨.type "tuple", none, .seq #[] 0, #[]⟩
noncomputable def o435 (P : Params) : Obj := ⟨.type "tuple", none, .seq #[.str "t" 721, .str "discs" 722, .str "first" 723] 0, #[]⟩
noncomputable def o565 : FO [65] := ⟨fun P => ⟨.none, none, .func ⟨"asks_tag", "asks_tag", _, .stmts _, _, 0, [], .none, .none, .none, .none, none, .none, .none, 0⟩, #[]⟩, fun _ => rfl⟩
noncomputable def o511 (P : Params) : Obj := ⟨.none, none, .fields #[.int 2 0, .int 0 0, .ref 20, .int 7 0, .int 0 0, .ref 40, .int 12 0, .int 0 0, .ref 59, .int 20 0, .int 0 0, .ref 78, .int 24 0, .int 0 0, .ref 99, .int 30 0, .int 0 0, .ref 120, .int 35 0, .int 0 0, .ref 141, .int 40 0, .int 0 0, .ref 162, .int 44 0, .int 0 0, .ref 167, .int 53 0, .int 0 0, .ref 172, .int 57 0, .int 0 0, .ref 179, .int 59 0, .int 0 0, .ref 186, .int 61 0, .int 0 0, .ref 191, .int 64 0, .int 0 0, .ref 196, .int 67 0, .int 0 0, .ref 203, .int 70 0, .int 0 0, .ref 210, .int 78 0, .int 0 0, .ref 218, .int 105 0, .int 0 0, .ref 239, .int 110 0, .int 0 0, .ref 260, .int 112 0, .int 0 0, .ref 267, .int 117 0, .int 0 0, .ref 274, .int 123 0, .int 0 0, .ref 281, .int 130 0, .int 0 0, .ref 288, .int 134 0, .int 0 0, .ref 295, .int 137 0, .int 0 0, .ref 302, .int 139 0, .int 0 0, .ref 309, .int 141 0, .int 0 0, .ref 316, .int 143 0, .int 0 0, .ref 323, .int 148 0, .int 0 0, .ref 330, .int 157 0, .int 0 0, .ref 337, .int 163 0, .int 0 0, .ref 344, .int 172 0, .int 0 0, .ref 351, .int 179 0, .int 0 0, .ref 358, .int 185 0, .int 0 0, .ref 365, .int 193 0, .int 0 0, .ref 372, .int 199 0, .int 0 0, .ref 379, .int 204 0, .int 0 0, .ref 386, .int 209 0, .int 0 0, .ref 393, .int 213 0, .int 0 0, .ref 400, .int 221 0, .int 0 0, .ref 407, .int 223 0, .int 0 0, .ref 414, .int 228 0, .int 0 0, .ref 421, .int 230 0, .int 0 0, .ref 428, .int 234 0, .int 0 0, .ref 435, .int 236 0, .int 0 0, .ref 442, .int 239 0, .int 0 0, .ref 449, .int 243 0, .int 0 0, .ref 456, .int 247 0, .int 0 0, .ref 463, .int 252 0, .int 0 0, .ref 470, .int 257 0, .int 0 0, .ref 477, .int 261 0, .int 0 0, .ref 484, .int 267 0, .int 0 0, .ref 491, .int 270 0, .int 0 0, .ref 498, .int 272 0, .int 0 0, .ref 505, .int 274 0, .int 0 0, .ref 512, .int 277 0, .int 0 0, .ref 519, .int 289 0, .int 0 0, .ref 524, .int 291 0, .int 0 0, .ref 531, .int 298 0, .int 0 0, .ref 538], #[]⟩
noncomputable def o577 (P : Params) : Obj := ⟨.type "tuple", none, .seq #[.str "subtype" 900, .str "value" 901, .str "t" 902] 0, #[]⟩
noncomputable def o447 (P : Params) : Obj := ⟨.type "tuple", none, .seq #[] 0, #[]⟩
noncomputable def o513 (P : Params) : Obj := ⟨.none, none, .fields #[], #[]⟩
noncomputable def o479 : FO [52] := ⟨fun P => ⟨.none, none, .func ⟨"refuse", "refuse", _, .stmts _, _, 0, [], .none, .none, .none, .none, none, .none, .none, 0⟩, #[]⟩, fun _ => rfl⟩
noncomputable def o545 (P : Params) : Obj := ⟨.type "code", none, .fields #[.str "converted" 853, .str "converted" 854, .str "/claim/cut.py" 855, .int 261 0, .int 3 0, .int 0 0, .int 0 0, .int 3 0, .ref 479, .bool true, .int 181 0, .ref 480, .none, .ref 481, .ref 482, .ref 483, .int 861 0, .int 261 0, .str "/claim/cut.py" 862], #[]⟩
noncomputable def o593 : FO [69] := ⟨fun P => ⟨.type "function", none, .func ⟨"fixed_bounds", "fixed_bounds", _, .stmts _, _, 3, [], .none, .none, .none, .str "adacore.nodevalues" 873, none, .ref 531, .none, 0⟩, #[]⟩, fun _ => rfl⟩
noncomputable def o463 (P : Params) : Obj := ⟨.type "tuple", none, .seq #[.str "t" 764, .str "ancestor" 765] 0, #[]⟩
noncomputable def o529 (P : Params) : Obj := ⟨.type "tuple", none, .seq #[] 0, #[]⟩
noncomputable def o495 : FO [54] := ⟨fun P => ⟨.type "function", none, .func ⟨"in_bounds", "in_bounds", _, .stmts _, _, 3, [], .none, .none, .none, .str "adacore.scalars" 777, none, .ref 435, .none, 0⟩, #[]⟩, fun _ => rfl⟩
noncomputable def o431 (P : Params) : Obj := ⟨.type "code", none, .fields #[.str "ahead_of_variant" 711, .str "ahead_of_variant" 712, .str "/claim/cut.py" 713, .int 193 0, .int 1 0, .int 0 0, .int 0 0, .int 3 0, .ref 367, .bool true, .int 181 0, .ref 368, .none, .ref 369, .ref 370, .ref 371, .int 715 0, .int 193 0, .str "/claim/cut.py" 716], #[]⟩
noncomputable def o561 (P : Params) : Obj := ⟨.type "tuple", none, .seq #[] 0, #[]⟩
noncomputable def o585 (P : Params) : Obj := ⟨.type "code", none, .fields #[.str "index_ranges" 906, .str "index_ranges" 907, .str "/claim/cut.py" 908, .int 289 0, .int 1 0, .int 0 0, .int 0 0, .int 3 0, .ref 521, .bool true, .int 181 0, .ref 522, .none, .none, .none, .ref 523, .int 909 0, .int 289 0, .str "/claim/cut.py" 910], #[]⟩
noncomputable def o455 (P : Params) : Obj := ⟨.none, none, .fields #[], #[]⟩
noncomputable def o521 (P : Params) : Obj := ⟨.type "tuple", none, .seq #[.str "num" 831, .str "den" 832, .str "q" 833] 0, #[]⟩
noncomputable def o487 (P : Params) : Obj := ⟨.type "code", none, .fields #[.str "bounds_of" 786, .str "bounds_of" 787, .str "/claim/cut.py" 788, .int 230 0, .int 1 0, .int 0 0, .int 0 0, .int 3 0, .ref 423, .bool true, .int 181 0, .ref 424, .none, .ref 425, .ref 426, .ref 427, .int 790 0, .int 230 0, .str "/claim/cut.py" 791], #[]⟩
noncomputable def o553 : FO [62] := ⟨fun P => ⟨.type "function", none, .func ⟨"convert_to", "convert_to", _, .stmts _, _, 3, [], .none, .none, .none, .str "adacore.scalars" 777, none, .ref 491, .none, 0⟩, #[]⟩, fun _ => rfl⟩
noncomputable def o471 (P : Params) : Obj := ⟨.type "tuple", none, .seq #[] 0, #[]⟩
noncomputable def o537 : FO [60] := ⟨fun P => ⟨.none, none, .func ⟨"small_of", "small_of", _, .stmts _, _, 0, [], .none, .none, .none, .none, none, .none, .none, 0⟩, #[]⟩, fun _ => rfl⟩
noncomputable def o503 (P : Params) : Obj := ⟨.type "tuple", none, .seq #[] 0, #[]⟩
noncomputable def o439 : FO [45] := ⟨fun P => ⟨.type "function", none, .func ⟨"present_parts", "present_parts", _, .stmts _, _, 3, [], .none, .none, .none, .str "adacore.records" 667, none, .ref 379, .none, 0⟩, #[]⟩, fun _ => rfl⟩
noncomputable def o569 (P : Params) : Obj := ⟨.none, none, .fields #[], #[]⟩
noncomputable def o575 (P : Params) : Obj := ⟨.type "tuple", none, .seq #[] 0, #[]⟩
noncomputable def o445 (P : Params) : Obj := ⟨.type "code", none, .fields #[.str "discs_in" 727, .str "discs_in" 728, .str "/claim/cut.py" 729, .int 204 0, .int 1 0, .int 0 0, .int 0 0, .int 3 0, .ref 381, .bool true, .int 181 0, .ref 382, .none, .ref 383, .ref 384, .ref 385, .int 735 0, .int 204 0, .str "/claim/cut.py" 736], #[]⟩
noncomputable def o509 : FO [56] := ⟨fun P => ⟨.type "function", none, .func ⟨"check_range", "check_range", _, .stmts _, _, 3, [], .none, .none, .none, .str "adacore.scalars" 777, none, .ref 449, .none, 0⟩, #[]⟩, fun _ => rfl⟩
noncomputable def o477 (P : Params) : Obj := ⟨.type "tuple", none, .seq #[.str "text" 782] 0, #[]⟩
noncomputable def o543 (P : Params) : Obj := ⟨.type "tuple", none, .seq #[] 0, #[]⟩
noncomputable def o591 : FO [69] := ⟨fun P => ⟨.none, none, .func ⟨"fixed_bounds", "fixed_bounds", _, .stmts _, _, 0, [], .none, .none, .none, .none, none, .none, .none, 0⟩, #[]⟩, fun _ => rfl⟩
noncomputable def o461 (P : Params) : Obj := ⟨.type "tuple", none, .seq #[] 0, #[]⟩
noncomputable def o527 (P : Params) : Obj := ⟨.none, none, .fields #[], #[]⟩
noncomputable def o493 : FO [54] := ⟨fun P => ⟨.none, none, .func ⟨"in_bounds", "in_bounds", _, .stmts _, _, 0, [], .none, .none, .none, .none, none, .none, .none, 0⟩, #[]⟩, fun _ => rfl⟩
noncomputable def o429 (P : Params) : Obj := ⟨.type "tuple", none, .seq #[] 0, #[]⟩
noncomputable def o559 (P : Params) : Obj := ⟨.type "code", none, .fields #[.str "line_head" 875, .str "line_head" 876, .str "/claim/cut.py" 877, .int 270 0, .int 1 0, .int 0 0, .int 0 0, .int 3 0, .ref 493, .bool true, .int 181 0, .ref 494, .none, .ref 495, .ref 496, .ref 497, .int 879 0, .int 270 0, .str "/claim/cut.py" 880], #[]⟩
noncomputable def o583 (P : Params) : Obj := ⟨.none, none, .fields #[], #[]⟩
noncomputable def o453 : FO [47] := ⟨fun P => ⟨.type "function", none, .func ⟨"check_discs", "check_discs", _, .stmts _, _, 3, [], .none, .none, .none, .str "adacore.records" 667, none, .ref 393, .none, 0⟩, #[]⟩, fun _ => rfl⟩
noncomputable def o519 (P : Params) : Obj := ⟨.type "tuple", none, .seq #[] 0, #[]⟩
noncomputable def o485 (P : Params) : Obj := ⟨.type "tuple", none, .seq #[] 0, #[]⟩
noncomputable def o551 : FO [62] := ⟨fun P => ⟨.none, none, .func ⟨"convert_to", "convert_to", _, .stmts _, _, 0, [], .none, .none, .none, .none, none, .none, .none, 0⟩, #[]⟩, fun _ => rfl⟩
noncomputable def o599 (P : Params) : Obj := ⟨.type "code", none, .fields #[.str "array_fitted" 919, .str "array_fitted" 920, .str "/claim/cut.py" 921, .int 298 0, .int 2 0, .int 0 0, .int 0 0, .int 3 0, .ref 533, .bool true, .int 181 0, .ref 534, .none, .ref 535, .ref 536, .ref 537, .int 925 0, .int 298 0, .str "/claim/cut.py" 926], #[]⟩
noncomputable def o469 (P : Params) : Obj := ⟨.none, none, .fields #[], #[]⟩
noncomputable def o535 (P : Params) : Obj := ⟨.type "tuple", none, .seq #[.str "t" 849] 0, #[]⟩
noncomputable def o501 (P : Params) : Obj := ⟨.type "code", none, .fields #[.str "is_member" 802, .str "is_member" 803, .str "/claim/cut.py" 804, .int 236 0, .int 2 0, .int 0 0, .int 0 0, .int 3 0, .ref 437, .bool true, .int 181 0, .ref 438, .none, .ref 439, .ref 440, .ref 441, .int 809 0, .int 236 0, .str "/claim/cut.py" 810], #[]⟩
noncomputable def o437 : FO [45] := ⟨fun P => ⟨.none, none, .func ⟨"present_parts", "present_parts", _, .stmts _, _, 0, [], .none, .none, .none, .none, none, .none, .none, 0⟩, #[]⟩, fun _ => rfl⟩
noncomputable def o567 : FO [65] := ⟨fun P => ⟨.type "function", none, .func ⟨"asks_tag", "asks_tag", _, .stmts _, _, 3, [], .none, .none, .none, .str "adacore.nodevalues" 873, none, .ref 505, .none, 0⟩, #[]⟩, fun _ => rfl⟩
noncomputable def o579 : FO [67] := ⟨fun P => ⟨.none, none, .func ⟨"qual_value", "qual_value", _, .stmts _, _, 0, [], .none, .none, .none, .none, none, .none, .none, 0⟩, #[]⟩, fun _ => rfl⟩
noncomputable def o449 (P : Params) : Obj := ⟨.type "tuple", none, .seq #[.str "value" 741, .str "constraint" 742, .str "name" 743, .str "due" 744] 0, #[]⟩
noncomputable def o515 (P : Params) : Obj := ⟨.type "tuple", none, .seq #[] 0, #[]⟩
noncomputable def o481 : FO [52] := ⟨fun P => ⟨.type "function", none, .func ⟨"refuse", "refuse", _, .stmts _, _, 3, [], .none, .none, .none, .str "adacore.scalars" 777, none, .ref 421, .none, 0⟩, #[]⟩, fun _ => rfl⟩
noncomputable def o547 (P : Params) : Obj := ⟨.type "tuple", none, .seq #[] 0, #[]⟩
noncomputable def o595 (P : Params) : Obj := ⟨.none, none, .fields #[], #[]⟩
noncomputable def o465 : FO [49] := ⟨fun P => ⟨.none, none, .func ⟨"is_in_line", "is_in_line", _, .stmts _, _, 0, [], .none, .none, .none, .none, none, .none, .none, 0⟩, #[]⟩, fun _ => rfl⟩
noncomputable def o531 (P : Params) : Obj := ⟨.type "code", none, .fields #[.str "cut_toward_zero" 837, .str "cut_toward_zero" 838, .str "/claim/cut.py" 839, .int 252 0, .int 2 0, .int 0 0, .int 0 0, .int 3 0, .ref 465, .bool true, .int 181 0, .ref 466, .none, .ref 467, .ref 468, .ref 469, .int 843 0, .int 252 0, .str "/claim/cut.py" 844], #[]⟩
noncomputable def o497 (P : Params) : Obj := ⟨.none, none, .fields #[], #[]⟩
noncomputable def o433 (P : Params) : Obj := ⟨.type "tuple", none, .seq #[] 0, #[]⟩
noncomputable def o563 (P : Params) : Obj := ⟨.type "tuple", none, .seq #[.str "t" 885] 0, #[]⟩
noncomputable def o587 (P : Params) : Obj := ⟨.type "tuple", none, .seq #[] 0, #[]⟩
noncomputable def o457 (P : Params) : Obj := ⟨.type "tuple", none, .seq #[] 0, #[]⟩
noncomputable def o523 : FO [58] := ⟨fun P => ⟨.none, none, .func ⟨"rounded_quotient", "rounded_quotient", _, .stmts _, _, 0, [], .none, .none, .none, .none, none, .none, .none, 0⟩, #[]⟩, fun _ => rfl⟩
noncomputable def o489 (P : Params) : Obj := ⟨.type "tuple", none, .seq #[] 0, #[]⟩
noncomputable def o555 (P : Params) : Obj := ⟨.none, none, .fields #[], #[]⟩
noncomputable def o473 (P : Params) : Obj := ⟨.type "code", none, .fields #[.str "own_part" 769, .str "own_part" 770, .str "/claim/cut.py" 771, .int 223 0, .int 2 0, .int 0 0, .int 0 0, .int 3 0, .ref 409, .bool true, .int 181 0, .ref 410, .none, .ref 411, .ref 412, .ref 413, .int 774 0, .int 223 0, .str "/claim/cut.py" 775], #[]⟩
noncomputable def o539 : FO [60] := ⟨fun P => ⟨.type "function", none, .func ⟨"small_of", "small_of", _, .stmts _, _, 3, [], .none, .none, .none, .str "adacore.scalars" 777, none, .ref 477, .none, 0⟩, #[]⟩, fun _ => rfl⟩
noncomputable def o505 (P : Params) : Obj := ⟨.type "tuple", none, .seq #[.str "subtype" 815, .str "value" 816] 0, #[]⟩
noncomputable def o441 (P : Params) : Obj := ⟨.none, none, .fields #[], #[]⟩
noncomputable def o571 (P : Params) : Obj := ⟨.type "tuple", none, .seq #[] 0, #[]⟩
noncomputable def o687 (P : Params) : Obj := ⟨.type "dict", none, .dict #[kv P "__name__" 165 (.str "law_xw0007_01" 987), kv P "__doc__" 166 .none, kv P "__package__" 167 .none, kv P "__loader__" 168 (.builtin "__main__.__loader__#opaque"), kv P "__spec__" 169 .none, kv P "__annotations__" 170 (.ref 6), kv P "__builtins__" 171 (.ref 4), kv P "__file__" 173 (.str "/claim/cut.py" 172), kv P "__cached__" 174 .none, kv P "AdaError" 217 (.ref 31), kv P "CheckFault" 243 (.ref 51), kv P "AdaRaise" 272 (.ref 70), kv P "Unset" 302 (.ref 89), kv P "Cell" 334 (.ref 110), kv P "ArrayValue" 365 (.ref 131), kv P "RecordValue" 396 (.ref 152), kv P "need_set" 403 (.ref 163), kv P "copy_value" 409 (.ref 168), kv P "lengths_of" 415 (.ref 173), kv P "OTHERS" 419 (.str "others" 418), kv P "raise_constraint" 426 (.ref 180), kv P "dim_length" 434 (.ref 187), kv P "check_lengths" 440 (.ref 192), kv P "slide_array" 446 (.ref 197), kv P "check_index_bounds" 454 (.ref 204), kv P "check_index_ranges" 467 (.ref 211), kv P "SCALAR_KINDS" 475 (.ref 212), kv P "Type" 528 (.ref 229), kv P "Subtype" 559 (.ref 250), kv P "base_bounds" 566 (.ref 261), kv P "int_type" 576 (.ref 268), kv P "array_type" 587 (.ref 275), kv P "record_type" 598 (.ref 282), kv P "access_type" 607 (.ref 289), kv P "numbered" 615 (.ref 296), kv P "same_type" 623 (.ref 303), kv P "is_scalar" 630 (.ref 310), kv P "is_numeric" 637 (.ref 317), kv P "integer_type" 646 (.ref 324), kv P "MOST_PRIVATE" 650 (.int 41 649), kv P "full_subtype" 659 (.ref 331), kv P "full_type" 666 (.ref 338), kv P "MOST_LINE" 670 (.int 40 669), kv P "type_line" 679 (.ref 345), kv P "covers_choice" 689 (.ref 352), kv P "chosen_alternative" 699 (.ref 359), kv P "variant_parts" 710 (.ref 366), kv P "ahead_of_variant" 717 (.ref 373), kv P "present_parts" 726 (.ref 380), kv P "discs_in" 737 (.ref 387), kv P "check_discs" 747 (.ref 394), kv P "ancestor_view" 760 (.ref 401), kv P "is_in_line" 768 (.ref 408), kv P "own_part" 776 (.ref 415), kv P "refuse" 785 (.ref 422), kv P "bounds_of" 792 (.ref 429), kv P "in_bounds" 801 (.ref 436), kv P "is_member" 811 (.ref 443), kv P "check_range" 819 (.ref 450), kv P "check_base" 827 (.ref 457), kv P "rounded_quotient" 836 (.ref 464), kv P "cut_toward_zero" 845 (.ref 471), kv P "small_of" 852 (.ref 478), kv P "converted" 863 (.ref 485), kv P "convert_to" 872 (.ref 492), kv P "line_head" 881 (.ref 499), kv P "asks_tag" 888 (.ref 506), kv P "check_line" 896 (.ref 513), kv P "qual_value" 905 (.ref 520), kv P "index_ranges" 911 (.ref 525), kv P "fixed_bounds" 918 (.ref 532), kv P "array_fitted" 927 (.ref 539), kv P "record_fitted" 936 (.ref 546), kv P "fit_value" 945 (.ref 553), kv P "record_converted" 955 (.ref 560), kv P "real_converted" 965 (.ref 567), kv P "check_bases" 976 (.ref 574), kv P "conv_value" 986 (.ref 581), kv P "_law_number" 994 (.ref 588), kv P "_law_two" 1001 (.ref 595), kv P "_law_deep" 1008 (.ref 602), kv P "_law_to" 1015 (.ref 609), kv P "_law_part" 1025 (.ref 616), kv P "_law_slot" 1033 (.ref 623), kv P "_law_spans" 1039 (.ref 628), kv P "_law_type" 1045 (.ref 633), kv P "_law_edges" 1056 (.ref 640), kv P "_law_member" 1069 (.ref 647), kv P "_law_seen" 1075 (.ref 652), kv P "_law_spoil" 1084 (.ref 659), kv P "_law_length" 1091 (.ref 666), kv P "_law_due" 1097 (.ref 671), kv P "_law_is_copy" 1107 (.ref 678), kv P "_law_fitted" 1116 (.ref 685), kv P "_law_turned" 1126 (.ref 692), kv P "law" 1132 (.ref 697)] 96, #[]⟩
noncomputable def o704 (P : Params) : Obj := ⟨.type "code", none, .fields #[.str "_law_edges" 1046, .str "_law_edges" 1047, .str "/claim/cut.py" 1048, .int 380 0, .int 2 0, .int 0 0, .int 0 0, .int 3 0, .ref 634, .bool true, .int 181 0, .ref 635, .none, .ref 636, .ref 637, .ref 638, .int 1054 0, .int 380 0, .str "/claim/cut.py" 1055], #[]⟩
noncomputable def o638 (P : Params) : Obj := ⟨.type "tuple", none, .seq #[] 0, #[]⟩
noncomputable def o606 (P : Params) : Obj := ⟨.type "tuple", none, .seq #[] 0, #[]⟩
noncomputable def o736 : FO [91] := ⟨fun P => ⟨.type "function", none, .func ⟨"_law_due", "_law_due", _, .stmts _, _, 3, [], .none, .none, .none, .str "law_xw0007_01" 987, none, .ref 670, .none, 0⟩, #[]⟩, fun _ => rfl⟩
noncomputable def o670 : FO [81] := ⟨fun P => ⟨.none, none, .func ⟨"_law_to", "_law_to", _, .stmts _, _, 0, [], .none, .none, .none, .none, none, .none, .none, 0⟩, #[]⟩, fun _ => rfl⟩
noncomputable def o720 (P : Params) : Obj := ⟨.type "tuple", none, .seq #[.str "value" 1079, .str "item" 1080, .str "name" 1081] 0, #[]⟩
noncomputable def o654 (P : Params) : Obj := ⟨.type "tuple", none, .seq #[.str "number" 998] 0, #[]⟩
noncomputable def o622 (P : Params) : Obj := ⟨.type "code", none, .fields #[.str "record_converted" 946, .str "record_converted" 947, .str "/claim/cut.py" 948, .int 321 0, .int 2 0, .int 0 0, .int 0 0, .int 3 0, .ref 554, .bool true, .int 181 0, .ref 555, .none, .ref 556, .ref 557, .ref 558, .int 953 0, .int 321 0, .str "/claim/cut.py" 954], #[]⟩
noncomputable def o752 (P : Params) : Obj := ⟨.none, none, .fields #[], #[]⟩
noncomputable def o686 : FO [83] := ⟨fun P => ⟨.type "function", none, .func ⟨"_law_slot", "_law_slot", _, .stmts _, _, 3, [], .none, .none, .none, .str "law_xw0007_01" 987, none, .ref 622, .none, 0⟩, #[]⟩, fun _ => rfl⟩
noncomputable def o712 : FO [87] := ⟨fun P => ⟨.type "function", none, .func ⟨"_law_member", "_law_member", _, .stmts _, _, 3, [], .none, .none, .none, .str "law_xw0007_01" 987, none, .ref 646, .none, 0⟩, #[]⟩, fun _ => rfl⟩
noncomputable def o646 (P : Params) : Obj := ⟨.none, none, .fields #[], #[]⟩
noncomputable def o614 : FO [72] := ⟨fun P => ⟨.none, none, .func ⟨"fit_value", "fit_value", _, .stmts _, _, 0, [], .none, .none, .none, .none, none, .none, .none, 0⟩, #[]⟩, fun _ => rfl⟩
noncomputable def o744 (P : Params) : Obj := ⟨.type "tuple", none, .seq #[] 0, #[]⟩
noncomputable def o678 (P : Params) : Obj := ⟨.type "code", none, .fields #[.str "_law_part" 1016, .str "_law_part" 1017, .str "/claim/cut.py" 1018, .int 368 0, .int 4 0, .int 0 0, .int 0 0, .int 3 0, .ref 610, .bool true, .int 181 0, .ref 611, .none, .ref 612, .ref 613, .ref 614, .int 1023 0, .int 368 0, .str "/claim/cut.py" 1024], #[]⟩
noncomputable def o728 (P : Params) : Obj := ⟨.type "tuple", none, .seq #[] 0, #[]⟩
noncomputable def o662 (P : Params) : Obj := ⟨.type "tuple", none, .seq #[] 0, #[]⟩
noncomputable def o630 : FO [74] := ⟨fun P => ⟨.type "function", none, .func ⟨"real_converted", "real_converted", _, .stmts _, _, 3, [], .none, .none, .none, .str "adacore.nodevalues" 873, none, .ref 566, .none, 0⟩, #[]⟩, fun _ => rfl⟩
noncomputable def o760 : FO [95] := ⟨fun P => ⟨.none, none, .func ⟨"law", "law", _, .stmts _, _, 0, [], .none, .none, .none, .none, none, .none, .none, 0⟩, #[]⟩, fun _ => rfl⟩
noncomputable def o696 : FO [85] := ⟨fun P => ⟨.none, none, .func ⟨"_law_type", "_law_type", _, .stmts _, _, 0, [], .none, .none, .none, .none, none, .none, .none, 0⟩, #[]⟩, fun _ => rfl⟩
noncomputable def o708 (P : Params) : Obj := ⟨.type "tuple", none, .seq #[.str "deep" 1060, .str "part" 1061, .str "seed" 1062, .str "is_record" 1063, .str "cells" 1064, .str "inner" 1065, .str "target" 1066] 0, #[]⟩
noncomputable def o642 : FO [76] := ⟨fun P => ⟨.none, none, .func ⟨"conv_value", "conv_value", _, .stmts _, _, 0, [], .none, .none, .none, .none, none, .none, .none, 0⟩, #[]⟩, fun _ => rfl⟩
noncomputable def o610 (P : Params) : Obj := ⟨.type "tuple", none, .seq #[] 0, #[]⟩
noncomputable def o740 (P : Params) : Obj := ⟨.type "tuple", none, .seq #[] 0, #[]⟩
noncomputable def o674 (P : Params) : Obj := ⟨.none, none, .fields #[], #[]⟩
noncomputable def o724 : FO [89] := ⟨fun P => ⟨.type "function", none, .func ⟨"_law_spoil", "_law_spoil", _, .stmts _, _, 3, [], .none, .none, .none, .str "law_xw0007_01" 987, none, .ref 658, .none, 0⟩, #[]⟩, fun _ => rfl⟩
noncomputable def o658 : FO [79] := ⟨fun P => ⟨.type "function", none, .func ⟨"_law_two", "_law_two", _, .stmts _, _, 3, [], .none, .none, .none, .str "law_xw0007_01" 987, none, .ref 594, .none, 0⟩, #[]⟩, fun _ => rfl⟩
noncomputable def o626 (P : Params) : Obj := ⟨.type "tuple", none, .seq #[.str "subtype" 959, .str "ratio" 960, .str "t" 961, .str "found" 962] 0, #[]⟩
noncomputable def o756 (P : Params) : Obj := ⟨.type "code", none, .fields #[.str "_law_turned" 1117, .str "_law_turned" 1118, .str "/claim/cut.py" 1119, .int 432 0, .int 3 0, .int 0 0, .int 0 0, .int 3 0, .ref 686, .bool true, .int 181 0, .ref 687, .none, .ref 688, .ref 689, .ref 690, .int 1124 0, .int 432 0, .str "/claim/cut.py" 1125], #[]⟩
noncomputable def o692 (P : Params) : Obj := ⟨.type "code", none, .fields #[.str "_law_spans" 1034, .str "_law_spans" 1035, .str "/claim/cut.py" 1036, .int 375 0, .int 2 0, .int 0 0, .int 0 0, .int 3 0, .ref 624, .bool true, .int 181 0, .ref 625, .none, .none, .none, .ref 626, .int 1037 0, .int 375 0, .str "/claim/cut.py" 1038], #[]⟩
noncomputable def o716 (P : Params) : Obj := ⟨.type "code", none, .fields #[.str "_law_seen" 1070, .str "_law_seen" 1071, .str "/claim/cut.py" 1072, .int 392 0, .int 1 0, .int 0 0, .int 0 0, .int 3 0, .ref 648, .bool true, .int 181 0, .ref 649, .none, .none, .none, .ref 650, .int 1073 0, .int 392 0, .str "/claim/cut.py" 1074], #[]⟩
noncomputable def o650 (P : Params) : Obj := ⟨.type "code", none, .fields #[.str "_law_number" 989, .str "_law_number" 990, .str "/claim/cut.py" 991, .int 360 0, .int 0 0, .int 0 0, .int 0 0, .int 3 0, .ref 582, .bool true, .int 181 0, .ref 583, .none, .ref 584, .ref 585, .ref 586, .int 992 0, .int 360 0, .str "/claim/cut.py" 993], #[]⟩
noncomputable def o618 (P : Params) : Obj := ⟨.none, none, .fields #[], #[]⟩
noncomputable def o748 : FO [93] := ⟨fun P => ⟨.none, none, .func ⟨"_law_fitted", "_law_fitted", _, .stmts _, _, 0, [], .none, .none, .none, .none, none, .none, .none, 0⟩, #[]⟩, fun _ => rfl⟩
noncomputable def o682 (P : Params) : Obj := ⟨.type "tuple", none, .seq #[.str "tape" 1029, .str "ways" 1030] 0, #[]⟩
noncomputable def o732 (P : Params) : Obj := ⟨.type "tuple", none, .seq #[] 0, #[]⟩
noncomputable def o666 (P : Params) : Obj := ⟨.type "tuple", none, .seq #[] 0, #[]⟩
noncomputable def o634 (P : Params) : Obj := ⟨.type "tuple", none, .seq #[] 0, #[]⟩
noncomputable def o700 (P : Params) : Obj := ⟨.none, none, .fields #[], #[]⟩
noncomputable def o706 (P : Params) : Obj := ⟨.type "tuple", none, .seq #[] 0, #[]⟩
noncomputable def o640 (P : Params) : Obj := ⟨.type "tuple", none, .seq #[.str "subtype" 980, .str "source" 981, .str "value" 982, .str "t" 983] 0, #[]⟩
noncomputable def o608 (P : Params) : Obj := ⟨.type "code", none, .fields #[.str "record_fitted" 928, .str "record_fitted" 929, .str "/claim/cut.py" 930, .int 304 0, .int 2 0, .int 0 0, .int 0 0, .int 3 0, .ref 540, .bool true, .int 181 0, .ref 541, .none, .ref 542, .ref 543, .ref 544, .int 934 0, .int 304 0, .str "/claim/cut.py" 935], #[]⟩
noncomputable def o738 (P : Params) : Obj := ⟨.none, none, .fields #[], #[]⟩
noncomputable def o672 : FO [81] := ⟨fun P => ⟨.type "function", none, .func ⟨"_law_to", "_law_to", _, .stmts _, _, 3, [], .none, .none, .none, .str "law_xw0007_01" 987, none, .ref 608, .none, 0⟩, #[]⟩, fun _ => rfl⟩
noncomputable def o722 : FO [89] := ⟨fun P => ⟨.none, none, .func ⟨"_law_spoil", "_law_spoil", _, .stmts _, _, 0, [], .none, .none, .none, .none, none, .none, .none, 0⟩, #[]⟩, fun _ => rfl⟩
noncomputable def o656 : FO [79] := ⟨fun P => ⟨.none, none, .func ⟨"_law_two", "_law_two", _, .stmts _, _, 0, [], .none, .none, .none, .none, none, .none, .none, 0⟩, #[]⟩, fun _ => rfl⟩
noncomputable def o624 (P : Params) : Obj := ⟨.type "tuple", none, .seq #[] 0, #[]⟩
noncomputable def o754 (P : Params) : Obj := ⟨.type "tuple", none, .seq #[] 0, #[]⟩
noncomputable def o690 (P : Params) : Obj := ⟨.none, none, .fields #[], #[]⟩
noncomputable def o714 (P : Params) : Obj := ⟨.none, none, .fields #[], #[]⟩
noncomputable def o648 (P : Params) : Obj := ⟨.type "tuple", none, .seq #[] 0, #[]⟩
noncomputable def o616 : FO [72] := ⟨fun P => ⟨.type "function", none, .func ⟨"fit_value", "fit_value", _, .stmts _, _, 3, [], .none, .none, .none, .str "adacore.nodevalues" 873, none, .ref 552, .none, 0⟩, #[]⟩, fun _ => rfl⟩
noncomputable def o746 (P : Params) : Obj := ⟨.type "tuple", none, .seq #[.str "subtype" 1111, .str "value" 1112, .str "fault" 1113] 0, #[]⟩
noncomputable def o680 (P : Params) : Obj := ⟨.type "tuple", none, .seq #[] 0, #[]⟩
noncomputable def o730 (P : Params) : Obj := ⟨.type "code", none, .fields #[.str "_law_length" 1085, .str "_law_length" 1086, .str "/claim/cut.py" 1087, .int 409 0, .int 1 0, .int 0 0, .int 0 0, .int 3 0, .ref 660, .bool true, .int 181 0, .ref 661, .none, .ref 662, .ref 663, .ref 664, .int 1089 0, .int 409 0, .str "/claim/cut.py" 1090], #[]⟩
noncomputable def o664 (P : Params) : Obj := ⟨.type "code", none, .fields #[.str "_law_deep" 1002, .str "_law_deep" 1003, .str "/claim/cut.py" 1004, .int 364 0, .int 1 0, .int 0 0, .int 0 0, .int 3 0, .ref 596, .bool true, .int 181 0, .ref 597, .none, .ref 598, .ref 599, .ref 600, .int 1006 0, .int 364 0, .str "/claim/cut.py" 1007], #[]⟩
noncomputable def o632 (P : Params) : Obj := ⟨.none, none, .fields #[], #[]⟩
noncomputable def o762 : FO [95] := ⟨fun P => ⟨.type "function", none, .func ⟨"law", "law", _, .stmts _, _, 3, [], .none, .none, .none, .str "law_xw0007_01" 987, none, .ref 696, .none, 0⟩, #[]⟩, fun _ => rfl⟩
noncomputable def o698 : FO [85] := ⟨fun P => ⟨.type "function", none, .func ⟨"_law_type", "_law_type", _, .stmts _, _, 3, [], .none, .none, .none, .str "law_xw0007_01" 987, none, .ref 632, .none, 0⟩, #[]⟩, fun _ => rfl⟩
noncomputable def o710 : FO [87] := ⟨fun P => ⟨.none, none, .func ⟨"_law_member", "_law_member", _, .stmts _, _, 0, [], .none, .none, .none, .none, none, .none, .none, 0⟩, #[]⟩, fun _ => rfl⟩
noncomputable def o644 : FO [76] := ⟨fun P => ⟨.type "function", none, .func ⟨"conv_value", "conv_value", _, .stmts _, _, 3, [], .none, .none, .none, .str "adacore.nodevalues" 873, none, .ref 580, .none, 0⟩, #[]⟩, fun _ => rfl⟩
noncomputable def o612 (P : Params) : Obj := ⟨.type "tuple", none, .seq #[.str "subtype" 940, .str "value" 941, .str "t" 942] 0, #[]⟩
noncomputable def o742 (P : Params) : Obj := ⟨.type "code", none, .fields #[.str "_law_is_copy" 1098, .str "_law_is_copy" 1099, .str "/claim/cut.py" 1100, .int 419 0, .int 3 0, .int 0 0, .int 0 0, .int 3 0, .ref 672, .bool true, .int 181 0, .ref 673, .none, .ref 674, .ref 675, .ref 676, .int 1105 0, .int 419 0, .str "/claim/cut.py" 1106], #[]⟩
noncomputable def o676 (P : Params) : Obj := ⟨.type "tuple", none, .seq #[] 0, #[]⟩
noncomputable def o726 (P : Params) : Obj := ⟨.none, none, .fields #[], #[]⟩
noncomputable def o660 (P : Params) : Obj := ⟨.none, none, .fields #[], #[]⟩
noncomputable def o628 : FO [74] := ⟨fun P => ⟨.none, none, .func ⟨"real_converted", "real_converted", _, .stmts _, _, 0, [], .none, .none, .none, .none, none, .none, .none, 0⟩, #[]⟩, fun _ => rfl⟩
noncomputable def o758 (P : Params) : Obj := ⟨.type "tuple", none, .seq #[] 0, #[]⟩
noncomputable def o694 (P : Params) : Obj := ⟨.type "tuple", none, .seq #[] 0, #[]⟩
noncomputable def o718 (P : Params) : Obj := ⟨.type "tuple", none, .seq #[] 0, #[]⟩
noncomputable def o652 (P : Params) : Obj := ⟨.type "tuple", none, .seq #[] 0, #[]⟩
noncomputable def o620 (P : Params) : Obj := ⟨.type "tuple", none, .seq #[] 0, #[]⟩
noncomputable def o750 : FO [93] := ⟨fun P => ⟨.type "function", none, .func ⟨"_law_fitted", "_law_fitted", _, .stmts _, _, 3, [], .none, .none, .none, .str "law_xw0007_01" 987, none, .ref 684, .none, 0⟩, #[]⟩, fun _ => rfl⟩
noncomputable def o684 : FO [83] := ⟨fun P => ⟨.none, none, .func ⟨"_law_slot", "_law_slot", _, .stmts _, _, 0, [], .none, .none, .none, .none, none, .none, .none, 0⟩, #[]⟩, fun _ => rfl⟩
noncomputable def o604 (P : Params) : Obj := ⟨.none, none, .fields #[], #[]⟩
noncomputable def o734 : FO [91] := ⟨fun P => ⟨.none, none, .func ⟨"_law_due", "_law_due", _, .stmts _, _, 0, [], .none, .none, .none, .none, none, .none, .none, 0⟩, #[]⟩, fun _ => rfl⟩
noncomputable def o668 (P : Params) : Obj := ⟨.type "tuple", none, .seq #[.str "number" 1012] 0, #[]⟩
noncomputable def o636 (P : Params) : Obj := ⟨.type "code", none, .fields #[.str "check_bases" 966, .str "check_bases" 967, .str "/claim/cut.py" 968, .int 339 0, .int 2 0, .int 0 0, .int 0 0, .int 3 0, .ref 568, .bool true, .int 181 0, .ref 569, .none, .ref 570, .ref 571, .ref 572, .int 974 0, .int 339 0, .str "/claim/cut.py" 975], #[]⟩
noncomputable def o702 (P : Params) : Obj := ⟨.type "tuple", none, .seq #[] 0, #[]⟩
noncomputable def o705 : FO [86] := ⟨fun P => ⟨.type "function", none, .func ⟨"_law_edges", "_law_edges", _, .stmts _, _, 3, [], .none, .none, .none, .str "law_xw0007_01" 987, none, .ref 639, .none, 0⟩, #[]⟩, fun _ => rfl⟩
noncomputable def o639 (P : Params) : Obj := ⟨.none, none, .fields #[], #[]⟩
noncomputable def o607 : FO [71] := ⟨fun P => ⟨.none, none, .func ⟨"record_fitted", "record_fitted", _, .stmts _, _, 0, [], .none, .none, .none, .none, none, .none, .none, 0⟩, #[]⟩, fun _ => rfl⟩
noncomputable def o737 (P : Params) : Obj := ⟨.type "tuple", none, .seq #[] 0, #[]⟩
noncomputable def o671 (P : Params) : Obj := ⟨.type "code", none, .fields #[.str "_law_to" 1009, .str "_law_to" 1010, .str "/claim/cut.py" 1011, .int 366 0, .int 1 0, .int 0 0, .int 0 0, .int 3 0, .ref 603, .bool true, .int 181 0, .ref 604, .none, .ref 605, .ref 606, .ref 607, .int 1013 0, .int 366 0, .str "/claim/cut.py" 1014], #[]⟩
noncomputable def o721 (P : Params) : Obj := ⟨.type "tuple", none, .seq #[] 0, #[]⟩
noncomputable def o655 (P : Params) : Obj := ⟨.type "tuple", none, .seq #[] 0, #[]⟩
noncomputable def o623 : FO [73] := ⟨fun P => ⟨.type "function", none, .func ⟨"record_converted", "record_converted", _, .stmts _, _, 3, [], .none, .none, .none, .str "adacore.nodevalues" 873, none, .ref 559, .none, 0⟩, #[]⟩, fun _ => rfl⟩
noncomputable def o753 (P : Params) : Obj := ⟨.type "tuple", none, .seq #[.str "subtype" 1120, .str "source" 1121, .str "value" 1122, .str "fault" 1123] 0, #[]⟩
noncomputable def o689 (P : Params) : Obj := ⟨.type "tuple", none, .seq #[] 0, #[]⟩
noncomputable def o713 (P : Params) : Obj := ⟨.type "tuple", none, .seq #[] 0, #[]⟩
noncomputable def o647 (P : Params) : Obj := ⟨.type "tuple", none, .seq #[] 0, #[]⟩
noncomputable def o615 (P : Params) : Obj := ⟨.type "code", none, .fields #[.str "fit_value" 937, .str "fit_value" 938, .str "/claim/cut.py" 939, .int 311 0, .int 2 0, .int 0 0, .int 0 0, .int 3 0, .ref 547, .bool true, .int 181 0, .ref 548, .none, .ref 549, .ref 550, .ref 551, .int 943 0, .int 311 0, .str "/claim/cut.py" 944], #[]⟩
noncomputable def o745 (P : Params) : Obj := ⟨.none, none, .fields #[], #[]⟩
noncomputable def o679 : FO [82] := ⟨fun P => ⟨.type "function", none, .func ⟨"_law_part", "_law_part", _, .stmts _, _, 3, [], .none, .none, .none, .str "law_xw0007_01" 987, none, .ref 615, .none, 0⟩, #[]⟩, fun _ => rfl⟩
noncomputable def o729 : FO [90] := ⟨fun P => ⟨.none, none, .func ⟨"_law_length", "_law_length", _, .stmts _, _, 0, [], .none, .none, .none, .none, none, .none, .none, 0⟩, #[]⟩, fun _ => rfl⟩
noncomputable def o663 : FO [80] := ⟨fun P => ⟨.none, none, .func ⟨"_law_deep", "_law_deep", _, .stmts _, _, 0, [], .none, .none, .none, .none, none, .none, .none, 0⟩, #[]⟩, fun _ => rfl⟩
noncomputable def o631 (P : Params) : Obj := ⟨.type "tuple", none, .seq #[] 0, #[]⟩
noncomputable def o761 (P : Params) : Obj := ⟨.type "code", none, .fields #[.str "law" 1127, .str "law" 1128, .str "/claim/cut.py" 1129, .int 437 0, .int 1 0, .int 0 0, .int 0 0, .int 3 0, .ref 693, .bool true, .int 181 0, .ref 694, .none, .none, .none, .ref 695, .int 1130 0, .int 437 0, .str "/claim/cut.py" 1131], #[]⟩
noncomputable def o697 (P : Params) : Obj := ⟨.type "code", none, .fields #[.str "_law_type" 1040, .str "_law_type" 1041, .str "/claim/cut.py" 1042, .int 377 0, .int 4 0, .int 0 0, .int 0 0, .int 3 0, .ref 629, .bool true, .int 181 0, .ref 630, .none, .none, .none, .ref 631, .int 1043 0, .int 377 0, .str "/claim/cut.py" 1044], #[]⟩
noncomputable def o688 (P : Params) : Obj := ⟨.none, none, .fields #[.int 2 0, .int 0 0, .ref 20, .int 7 0, .int 0 0, .ref 40, .int 12 0, .int 0 0, .ref 59, .int 20 0, .int 0 0, .ref 78, .int 24 0, .int 0 0, .ref 99, .int 30 0, .int 0 0, .ref 120, .int 35 0, .int 0 0, .ref 141, .int 40 0, .int 0 0, .ref 162, .int 44 0, .int 0 0, .ref 167, .int 53 0, .int 0 0, .ref 172, .int 57 0, .int 0 0, .ref 179, .int 59 0, .int 0 0, .ref 186, .int 61 0, .int 0 0, .ref 191, .int 64 0, .int 0 0, .ref 196, .int 67 0, .int 0 0, .ref 203, .int 70 0, .int 0 0, .ref 210, .int 78 0, .int 0 0, .ref 218, .int 105 0, .int 0 0, .ref 239, .int 110 0, .int 0 0, .ref 260, .int 112 0, .int 0 0, .ref 267, .int 117 0, .int 0 0, .ref 274, .int 123 0, .int 0 0, .ref 281, .int 130 0, .int 0 0, .ref 288, .int 134 0, .int 0 0, .ref 295, .int 137 0, .int 0 0, .ref 302, .int 139 0, .int 0 0, .ref 309, .int 141 0, .int 0 0, .ref 316, .int 143 0, .int 0 0, .ref 323, .int 148 0, .int 0 0, .ref 330, .int 157 0, .int 0 0, .ref 337, .int 163 0, .int 0 0, .ref 344, .int 172 0, .int 0 0, .ref 351, .int 179 0, .int 0 0, .ref 358, .int 185 0, .int 0 0, .ref 365, .int 193 0, .int 0 0, .ref 372, .int 199 0, .int 0 0, .ref 379, .int 204 0, .int 0 0, .ref 386, .int 209 0, .int 0 0, .ref 393, .int 213 0, .int 0 0, .ref 400, .int 221 0, .int 0 0, .ref 407, .int 223 0, .int 0 0, .ref 414, .int 228 0, .int 0 0, .ref 421, .int 230 0, .int 0 0, .ref 428, .int 234 0, .int 0 0, .ref 435, .int 236 0, .int 0 0, .ref 442, .int 239 0, .int 0 0, .ref 449, .int 243 0, .int 0 0, .ref 456, .int 247 0, .int 0 0, .ref 463, .int 252 0, .int 0 0, .ref 470, .int 257 0, .int 0 0, .ref 477, .int 261 0, .int 0 0, .ref 484, .int 267 0, .int 0 0, .ref 491, .int 270 0, .int 0 0, .ref 498, .int 272 0, .int 0 0, .ref 505, .int 274 0, .int 0 0, .ref 512, .int 277 0, .int 0 0, .ref 519, .int 289 0, .int 0 0, .ref 524, .int 291 0, .int 0 0, .ref 531, .int 298 0, .int 0 0, .ref 538, .int 304 0, .int 0 0, .ref 545, .int 311 0, .int 0 0, .ref 552, .int 321 0, .int 0 0, .ref 559, .int 332 0, .int 0 0, .ref 566, .int 339 0, .int 0 0, .ref 573, .int 344 0, .int 0 0, .ref 580, .int 360 0, .int 0 0, .ref 587, .int 362 0, .int 0 0, .ref 594, .int 364 0, .int 0 0, .ref 601, .int 366 0, .int 0 0, .ref 608, .int 368 0, .int 0 0, .ref 615, .int 370 0, .int 0 0, .ref 622, .int 375 0, .int 0 0, .ref 627, .int 377 0, .int 0 0, .ref 632, .int 380 0, .int 0 0, .ref 639, .int 386 0, .int 0 0, .ref 646, .int 392 0, .int 0 0, .ref 651, .int 398 0, .int 0 0, .ref 658, .int 409 0, .int 0 0, .ref 665, .int 411 0, .int 0 0, .ref 670, .int 419 0, .int 0 0, .ref 677, .int 427 0, .int 0 0, .ref 684, .int 432 0, .int 0 0, .ref 691, .int 437 0, .int 0 0, .ref 696], #[]⟩
noncomputable def o709 (P : Params) : Obj := ⟨.type "tuple", none, .seq #[] 0, #[]⟩
noncomputable def o643 (P : Params) : Obj := ⟨.type "code", none, .fields #[.str "conv_value" 977, .str "conv_value" 978, .str "/claim/cut.py" 979, .int 344 0, .int 3 0, .int 0 0, .int 0 0, .int 3 0, .ref 575, .bool true, .int 181 0, .ref 576, .none, .ref 577, .ref 578, .ref 579, .int 984 0, .int 344 0, .str "/claim/cut.py" 985], #[]⟩
noncomputable def o611 (P : Params) : Obj := ⟨.none, none, .fields #[], #[]⟩
noncomputable def o741 : FO [92] := ⟨fun P => ⟨.none, none, .func ⟨"_law_is_copy", "_law_is_copy", _, .stmts _, _, 0, [], .none, .none, .none, .none, none, .none, .none, 0⟩, #[]⟩, fun _ => rfl⟩
noncomputable def o675 (P : Params) : Obj := ⟨.type "tuple", none, .seq #[.str "number" 1019, .str "two" 1020, .str "to" 1021, .str "deep" 1022] 0, #[]⟩
noncomputable def o725 (P : Params) : Obj := ⟨.type "tuple", none, .seq #[] 0, #[]⟩
noncomputable def o659 (P : Params) : Obj := ⟨.type "tuple", none, .seq #[] 0, #[]⟩
noncomputable def o627 (P : Params) : Obj := ⟨.type "tuple", none, .seq #[] 0, #[]⟩
noncomputable def o757 : FO [94] := ⟨fun P => ⟨.type "function", none, .func ⟨"_law_turned", "_law_turned", _, .stmts _, _, 3, [], .none, .none, .none, .str "law_xw0007_01" 987, none, .ref 691, .none, 0⟩, #[]⟩, fun _ => rfl⟩
noncomputable def o693 : FO [84] := ⟨fun P => ⟨.type "function", none, .func ⟨"_law_spans", "_law_spans", _, .stmts _, _, 3, [], .none, .none, .none, .str "law_xw0007_01" 987, none, .ref 627, .none, 0⟩, #[]⟩, fun _ => rfl⟩
noncomputable def o717 : FO [88] := ⟨fun P => ⟨.type "function", none, .func ⟨"_law_seen", "_law_seen", _, .stmts _, _, 3, [], .none, .none, .none, .str "law_xw0007_01" 987, none, .ref 651, .none, 0⟩, #[]⟩, fun _ => rfl⟩
noncomputable def o651 : FO [78] := ⟨fun P => ⟨.type "function", none, .func ⟨"_law_number", "_law_number", _, .stmts _, _, 3, [], .none, .none, .none, .str "law_xw0007_01" 987, none, .ref 587, .none, 0⟩, #[]⟩, fun _ => rfl⟩
noncomputable def o619 (P : Params) : Obj := ⟨.type "tuple", none, .seq #[.str "subtype" 949, .str "value" 950, .str "t" 951, .str "found" 952] 0, #[]⟩
noncomputable def o749 (P : Params) : Obj := ⟨.type "code", none, .fields #[.str "_law_fitted" 1108, .str "_law_fitted" 1109, .str "/claim/cut.py" 1110, .int 427 0, .int 2 0, .int 0 0, .int 0 0, .int 3 0, .ref 679, .bool true, .int 181 0, .ref 680, .none, .ref 681, .ref 682, .ref 683, .int 1114 0, .int 427 0, .str "/claim/cut.py" 1115], #[]⟩
noncomputable def o683 (P : Params) : Obj := ⟨.type "tuple", none, .seq #[] 0, #[]⟩
noncomputable def o603 (P : Params) : Obj := ⟨.type "tuple", none, .seq #[] 0, #[]⟩
noncomputable def o733 (P : Params) : Obj := ⟨.none, none, .fields #[], #[]⟩
noncomputable def o667 (P : Params) : Obj := ⟨.none, none, .fields #[], #[]⟩
noncomputable def o635 : FO [75] := ⟨fun P => ⟨.none, none, .func ⟨"check_bases", "check_bases", _, .stmts _, _, 0, [], .none, .none, .none, .none, none, .none, .none, 0⟩, #[]⟩, fun _ => rfl⟩
noncomputable def o701 (P : Params) : Obj := ⟨.type "tuple", none, .seq #[.str "tape" 1049, .str "dims" 1050, .str "found" 1051, .str "turn" 1052, .str "low" 1053] 0, #[]⟩
noncomputable def o707 (P : Params) : Obj := ⟨.none, none, .fields #[], #[]⟩
noncomputable def o641 (P : Params) : Obj := ⟨.type "tuple", none, .seq #[] 0, #[]⟩
noncomputable def o609 : FO [71] := ⟨fun P => ⟨.type "function", none, .func ⟨"record_fitted", "record_fitted", _, .stmts _, _, 3, [], .none, .none, .none, .str "adacore.nodevalues" 873, none, .ref 545, .none, 0⟩, #[]⟩, fun _ => rfl⟩
noncomputable def o739 (P : Params) : Obj := ⟨.type "tuple", none, .seq #[.str "found" 1101, .str "value" 1102, .str "due" 1103, .str "before" 1104] 0, #[]⟩
noncomputable def o673 (P : Params) : Obj := ⟨.type "tuple", none, .seq #[] 0, #[]⟩
noncomputable def o723 (P : Params) : Obj := ⟨.type "code", none, .fields #[.str "_law_spoil" 1076, .str "_law_spoil" 1077, .str "/claim/cut.py" 1078, .int 398 0, .int 1 0, .int 0 0, .int 0 0, .int 3 0, .ref 653, .bool true, .int 181 0, .ref 654, .none, .ref 655, .ref 656, .ref 657, .int 1082 0, .int 398 0, .str "/claim/cut.py" 1083], #[]⟩
noncomputable def o657 (P : Params) : Obj := ⟨.type "code", none, .fields #[.str "_law_two" 995, .str "_law_two" 996, .str "/claim/cut.py" 997, .int 362 0, .int 1 0, .int 0 0, .int 0 0, .int 3 0, .ref 589, .bool true, .int 181 0, .ref 590, .none, .ref 591, .ref 592, .ref 593, .int 999 0, .int 362 0, .str "/claim/cut.py" 1000], #[]⟩
noncomputable def o625 (P : Params) : Obj := ⟨.none, none, .fields #[], #[]⟩
noncomputable def o755 : FO [94] := ⟨fun P => ⟨.none, none, .func ⟨"_law_turned", "_law_turned", _, .stmts _, _, 0, [], .none, .none, .none, .none, none, .none, .none, 0⟩, #[]⟩, fun _ => rfl⟩
noncomputable def o691 : FO [84] := ⟨fun P => ⟨.none, none, .func ⟨"_law_spans", "_law_spans", _, .stmts _, _, 0, [], .none, .none, .none, .none, none, .none, .none, 0⟩, #[]⟩, fun _ => rfl⟩
noncomputable def o715 : FO [88] := ⟨fun P => ⟨.none, none, .func ⟨"_law_seen", "_law_seen", _, .stmts _, _, 0, [], .none, .none, .none, .none, none, .none, .none, 0⟩, #[]⟩, fun _ => rfl⟩
noncomputable def o649 : FO [78] := ⟨fun P => ⟨.none, none, .func ⟨"_law_number", "_law_number", _, .stmts _, _, 0, [], .none, .none, .none, .none, none, .none, .none, 0⟩, #[]⟩, fun _ => rfl⟩
noncomputable def o617 (P : Params) : Obj := ⟨.type "tuple", none, .seq #[] 0, #[]⟩
noncomputable def o747 (P : Params) : Obj := ⟨.type "tuple", none, .seq #[] 0, #[]⟩
noncomputable def o681 (P : Params) : Obj := ⟨.none, none, .fields #[], #[]⟩
noncomputable def o731 : FO [90] := ⟨fun P => ⟨.type "function", none, .func ⟨"_law_length", "_law_length", _, .stmts _, _, 3, [], .none, .none, .none, .str "law_xw0007_01" 987, none, .ref 665, .none, 0⟩, #[]⟩, fun _ => rfl⟩
noncomputable def o665 : FO [80] := ⟨fun P => ⟨.type "function", none, .func ⟨"_law_deep", "_law_deep", _, .stmts _, _, 3, [], .none, .none, .none, .str "law_xw0007_01" 987, none, .ref 601, .none, 0⟩, #[]⟩, fun _ => rfl⟩
noncomputable def o633 (P : Params) : Obj := ⟨.type "tuple", none, .seq #[.str "t" 969, .str "value" 970, .str "place" 971, .str "low" 972, .str "high" 973] 0, #[]⟩
noncomputable def o699 (P : Params) : Obj := ⟨.type "tuple", none, .seq #[] 0, #[]⟩
noncomputable def o711 (P : Params) : Obj := ⟨.type "code", none, .fields #[.str "_law_member" 1057, .str "_law_member" 1058, .str "/claim/cut.py" 1059, .int 386 0, .int 5 0, .int 0 0, .int 0 0, .int 3 0, .ref 641, .bool true, .int 181 0, .ref 642, .none, .ref 643, .ref 644, .ref 645, .int 1067 0, .int 386 0, .str "/claim/cut.py" 1068], #[]⟩
noncomputable def o645 (P : Params) : Obj := ⟨.type "tuple", none, .seq #[] 0, #[]⟩
noncomputable def o613 (P : Params) : Obj := ⟨.type "tuple", none, .seq #[] 0, #[]⟩
noncomputable def o743 : FO [92] := ⟨fun P => ⟨.type "function", none, .func ⟨"_law_is_copy", "_law_is_copy", _, .stmts _, _, 3, [], .none, .none, .none, .str "law_xw0007_01" 987, none, .ref 677, .none, 0⟩, #[]⟩, fun _ => rfl⟩
noncomputable def o677 : FO [82] := ⟨fun P => ⟨.none, none, .func ⟨"_law_part", "_law_part", _, .stmts _, _, 0, [], .none, .none, .none, .none, none, .none, .none, 0⟩, #[]⟩, fun _ => rfl⟩
noncomputable def o727 (P : Params) : Obj := ⟨.type "tuple", none, .seq #[.str "pair" 1088] 0, #[]⟩
noncomputable def o661 (P : Params) : Obj := ⟨.type "tuple", none, .seq #[.str "two" 1005] 0, #[]⟩
noncomputable def o629 (P : Params) : Obj := ⟨.type "code", none, .fields #[.str "real_converted" 956, .str "real_converted" 957, .str "/claim/cut.py" 958, .int 332 0, .int 2 0, .int 0 0, .int 0 0, .int 3 0, .ref 561, .bool true, .int 181 0, .ref 562, .none, .ref 563, .ref 564, .ref 565, .int 963 0, .int 332 0, .str "/claim/cut.py" 964], #[]⟩
noncomputable def o759 (P : Params) : Obj := ⟨.none, none, .fields #[], #[]⟩
noncomputable def o695 (P : Params) : Obj := ⟨.none, none, .fields #[], #[]⟩
noncomputable def o719 (P : Params) : Obj := ⟨.none, none, .fields #[], #[]⟩
noncomputable def o653 (P : Params) : Obj := ⟨.none, none, .fields #[], #[]⟩
noncomputable def o621 : FO [73] := ⟨fun P => ⟨.none, none, .func ⟨"record_converted", "record_converted", _, .stmts _, _, 0, [], .none, .none, .none, .none, none, .none, .none, 0⟩, #[]⟩, fun _ => rfl⟩
noncomputable def o751 (P : Params) : Obj := ⟨.type "tuple", none, .seq #[] 0, #[]⟩
noncomputable def o685 (P : Params) : Obj := ⟨.type "code", none, .fields #[.str "_law_slot" 1026, .str "_law_slot" 1027, .str "/claim/cut.py" 1028, .int 370 0, .int 2 0, .int 0 0, .int 0 0, .int 3 0, .ref 617, .bool true, .int 181 0, .ref 618, .none, .ref 619, .ref 620, .ref 621, .int 1031 0, .int 370 0, .str "/claim/cut.py" 1032], #[]⟩
noncomputable def o605 (P : Params) : Obj := ⟨.type "tuple", none, .seq #[.str "subtype" 931, .str "value" 932, .str "found" 933] 0, #[]⟩
noncomputable def o735 (P : Params) : Obj := ⟨.type "code", none, .fields #[.str "_law_due" 1092, .str "_law_due" 1093, .str "/claim/cut.py" 1094, .int 411 0, .int 3 0, .int 0 0, .int 0 0, .int 3 0, .ref 667, .bool true, .int 181 0, .ref 668, .none, .none, .none, .ref 669, .int 1095 0, .int 411 0, .str "/claim/cut.py" 1096], #[]⟩
noncomputable def o669 (P : Params) : Obj := ⟨.type "tuple", none, .seq #[] 0, #[]⟩
noncomputable def o637 : FO [75] := ⟨fun P => ⟨.type "function", none, .func ⟨"check_bases", "check_bases", _, .stmts _, _, 3, [], .none, .none, .none, .str "adacore.nodevalues" 873, none, .ref 573, .none, 0⟩, #[]⟩, fun _ => rfl⟩
noncomputable def o703 : FO [86] := ⟨fun P => ⟨.none, none, .func ⟨"_law_edges", "_law_edges", _, .stmts _, _, 0, [], .none, .none, .none, .none, none, .none, .none, 0⟩, #[]⟩, fun _ => rfl⟩
noncomputable def t47 : Params → BT := (n PySem.W.boot_o_0 (n PySem.W.boot_o_1 (n PySem.W.boot_o_3 (f PySem.W.boot_o_7) (f o43)) (n PySem.W.boot_o_5 (f PySem.W.boot_o_9) (f o45))) (n PySem.W.boot_o_2 (n PySem.W.boot_o_4 (f PySem.W.boot_o_8) (f o44)) (n PySem.W.boot_o_6 (f PySem.W.boot_o_10) (f o46))))
noncomputable def t238 : Params → BT := (n PySem.W.boot_o_0 (n PySem.W.boot_o_1 (n o185 (n PySem.W.boot_o_7 (n o52 (n o96 (n o106 (f o176) z) (n o142 (f o210) z)) (n o87 (n o124 (f o194) z) (n o158 (f o226) z))) (n o60 (n o79 (n o114 (f o184) z) (n o150 (f o218) z)) (n o98 (n o132 (f o202) z) (n o168 (f o234) z)))) (n o43 (n o56 (n o75 (n o110.1 (f o180) z) (n o146 (f o214.1) z)) (n o91 (n o128 (f o198.1) z) (n o164 (f o230) z))) (n o64 (n o83 (n o120 (f o190) z) (n o154.1 (f o222.1) z)) (n o102 (n o136 (f o206) z) (n o172 (f o238.1) z))))) (n PySem.W.boot_o_5 (n PySem.W.boot_o_9 (n o54 (n o70 (n o108.1 (f o178) z) (n o144 (f o212.1) z)) (n o89 (n o126 (f o196) z) (n o160 (f o228) z))) (n o62 (n o81 (n o118 (f o188) z) (n o152.1 (f o220) z)) (n o100 (n o134 (f o204) z) (n o170 (f o236.1) z)))) (n o45 (n o58 (n o77 (n o112 (f o182) z) (n o148 (f o216) z)) (n o93 (n o130 (f o200.1) z) (n o166 (f o232) z))) (n o66 (n o85 (n o122 (f o192) z) (n o156 (f o224.1) z)) (n o104 (n o138 (f o208) z) (f o174)))))) (n o49 (n PySem.W.boot_o_4 (n PySem.W.boot_o_8 (n o53 (n o69 (n o107 (f o177.1) z) (n o143 (f o211) z)) (n o88.1 (n o125 (f o195) z) (n o159 (f o227) z))) (n o61 (n o80 (n o115 (f o187) z) (n o151 (f o219.1) z)) (n o99 (n o133 (f o203) z) (n o169 (f o235) z)))) (n o186 (n o57 (n o76 (n o111 (f o181) z) (n o147 (f o215) z)) (n o92 (n o129.1 (f o199) z) (n o165 (f o231.1) z))) (n o65.1 (n o84 (n o121 (f o191) z) (n o155 (f o223) z)) (n o103 (n o137 (f o207) z) (f o173))))) (n PySem.W.boot_o_6 (n PySem.W.boot_o_10 (n o55 (n o71 (n o109 (f o179) z) (n o145 (f o213) z)) (n o90 (n o127 (f o197) z) (n o161 (f o229.1) z))) (n o63.1 (n o82 (n o119 (f o189) z) (n o153 (f o221) z)) (n o101 (n o135 (f o205) z) (n o171 (f o237) z)))) (n o46 (n o59 (n o78 (n o113 (f o183) z) (n o149 (f o217.1) z)) (n o97 (n o131.1 (f o201) z) (n o167 (f o233) z))) (n o67 (n o86.1 (n o123 (f o193) z) (n o157 (f o225) z)) (n o105 (n o141 (f o209) z) (f o175.1)))))))
noncomputable def t423 : Params → BT := (n PySem.W.boot_o_0 (n PySem.W.boot_o_1 (n o345 (n PySem.W.boot_o_7 (n o52 (n o96 (n o106 (n o176 (f o310) z) (n o244 (f o376) z)) (n o142 (n o210 (f o342.1) z) (n o276 (f o408) z))) (n o87 (n o124 (n o194 (f o326) z) (n o260 (f o392) z)) (n o158 (n o226 (f o360.1) z) (f o294)))) (n o60 (n o79 (n o114 (n o184 (f o318) z) (n o252 (f o384) z)) (n o150 (n o218 (f o352) z) (n o284 (f o416.1) z))) (n o98 (n o132 (n o202 (f o334) z) (n o268 (f o400.1) z)) (n o168 (n o234 (f o368) z) (f o302.1))))) (n o43 (n o56 (n o75 (n o110.1 (n o180 (f o314.1) z) (n o248.1 (f o380) z)) (n o146 (n o214.1 (f o348) z) (n o280 (f o412) z))) (n o91 (n o128 (n o198.1 (f o330.1) z) (n o264.1 (f o396) z)) (n o164 (n o230 (f o364) z) (f o298)))) (n o64 (n o83 (n o120 (n o190 (f o322) z) (n o256 (f o388.1) z)) (n o154.1 (n o222.1 (f o356) z) (n o290 (f o420) z))) (n o102 (n o136 (n o206 (f o338) z) (n o272 (f o404) z)) (n o172 (n o238.1 (f o372.1) z) (f o306)))))) (n PySem.W.boot_o_5 (n PySem.W.boot_o_9 (n o54 (n o70 (n o108.1 (n o178 (f o312) z) (n o246 (f o378) z)) (n o144 (n o212.1 (f o344.1) z) (n o278 (f o410) z))) (n o89 (n o126 (n o196 (f o328.1) z) (n o262.1 (f o394) z)) (n o160 (n o228 (f o362) z) (f o296)))) (n o62 (n o81 (n o118 (n o188 (f o320) z) (n o254 (f o386.1) z)) (n o152.1 (n o220 (f o354) z) (n o286 (f o418) z))) (n o100 (n o134 (n o204 (f o336) z) (n o270 (f o402.1) z)) (n o170 (n o236.1 (f o370) z) (f o304))))) (n o45 (n o58 (n o77 (n o112 (n o182 (f o316.1) z) (n o250.1 (f o382) z)) (n o148 (n o216 (f o350) z) (n o282 (f o414.1) z))) (n o93 (n o130 (n o200.1 (f o332) z) (n o266 (f o398) z)) (n o166 (n o232 (f o366) z) (f o300.1)))) (n o66 (n o85 (n o122 (n o192 (f o324) z) (n o258 (f o390) z)) (n o156 (n o224.1 (f o358.1) z) (n o292 (f o422) z))) (n o104 (n o138 (n o208 (f o340) z) (n o274 (f o406) z)) (n o174 (n o242 (f o374.1) z) (f o308))))))) (n o49 (n PySem.W.boot_o_4 (n PySem.W.boot_o_8 (n o53 (n o69 (n o107 (n o177.1 (f o311) z) (n o245.1 (f o377) z)) (n o143 (n o211 (f o343) z) (n o277.1 (f o409.1) z))) (n o88.1 (n o125 (n o195 (f o327) z) (n o261 (f o393.1) z)) (n o159 (n o227 (f o361) z) (f o295)))) (n o61 (n o80 (n o115 (n o187 (f o319) z) (n o253 (f o385) z)) (n o151 (n o219.1 (f o353.1) z) (n o285 (f o417) z))) (n o99 (n o133 (n o203 (f o335.1) z) (n o269 (f o401) z)) (n o169 (n o235 (f o369) z) (f o303))))) (n o346 (n o57 (n o76 (n o111 (n o181 (f o315) z) (n o249 (f o381.1) z)) (n o147 (n o215 (f o349) z) (n o281 (f o413) z))) (n o92 (n o129.1 (n o199 (f o331) z) (n o265 (f o397) z)) (n o165 (n o231.1 (f o365.1) z) (f o299)))) (n o65.1 (n o84 (n o121 (n o191 (f o323.1) z) (n o257.1 (f o389) z)) (n o155 (n o223 (f o357) z) (n o291 (f o421.1) z))) (n o103 (n o137 (n o207 (f o339) z) (n o273 (f o405) z)) (n o173 (n o241 (f o373) z) (f o307)))))) (n PySem.W.boot_o_6 (n PySem.W.boot_o_10 (n o55 (n o71 (n o109 (n o179 (f o313) z) (n o247 (f o379.1) z)) (n o145 (n o213 (f o347) z) (n o279.1 (f o411) z))) (n o90 (n o127 (n o197 (f o329) z) (n o263 (f o395.1) z)) (n o161 (n o229.1 (f o363) z) (f o297)))) (n o63.1 (n o82 (n o119 (n o189 (f o321.1) z) (n o255.1 (f o387) z)) (n o153 (n o221 (f o355) z) (n o289 (f o419) z))) (n o101 (n o135 (n o205 (f o337.1) z) (n o271 (f o403) z)) (n o171 (n o237 (f o371) z) (f o305))))) (n o46 (n o59 (n o78 (n o113 (n o183 (f o317) z) (n o251 (f o383) z)) (n o149 (n o217.1 (f o351.1) z) (n o283 (f o415) z))) (n o97 (n o131.1 (n o201 (f o333) z) (n o267 (f o399) z)) (n o167 (n o233 (f o367.1) z) (f o301)))) (n o67 (n o86.1 (n o123 (n o193 (f o325) z) (n o259 (f o391) z)) (n o157 (n o225 (f o359) z) (n o293 (f o423.1) z))) (n o105 (n o141 (n o209 (f o341) z) (n o275 (f o407.1) z)) (n o175.1 (n o243.1 (f o375) z) (f o309))))))))
noncomputable def t600 : Params → BT := (n PySem.W.boot_o_0 (n PySem.W.boot_o_1 (n o510 (n PySem.W.boot_o_7 (n o52 (n o96 (n o106 (n o176 (n o310 (f o572.1) z) (f o442)) (n o244 (f o376) (f o506))) (n o142 (n o210 (f o342.1) (f o474.1)) (n o276 (f o408) (f o540)))) (n o87 (n o124 (n o194 (n o326 (f o588) z) (f o458.1)) (n o260 (f o392) (f o524))) (n o158 (n o226 (f o360.1) (f o490)) (n o294 (f o426) (f o556))))) (n o60 (n o79 (n o114 (n o184 (n o318 (f o580) z) (f o450)) (n o252 (f o384) (f o516.1))) (n o150 (n o218 (f o352) (f o482)) (n o284 (f o416.1) (f o548)))) (n o98 (n o132 (n o202 (n o334 (f o596) z) (f o466)) (n o268 (f o400.1) (f o532.1))) (n o168 (n o234 (f o368) (f o498)) (n o302.1 (f o434) (f o564)))))) (n o43 (n o56 (n o75 (n o110.1 (n o180 (n o314.1 (f o576) z) (f o446.1)) (n o248.1 (f o380) (f o512))) (n o146 (n o214.1 (f o348) (f o478)) (n o280 (f o412) (f o544.1)))) (n o91 (n o128 (n o198.1 (n o330.1 (f o592) z) (f o462)) (n o264.1 (f o396) (f o528))) (n o164 (n o230 (f o364) (f o494)) (n o298 (f o430.1) (f o560.1))))) (n o64 (n o83 (n o120 (n o190 (n o322 (f o584.1) z) (f o454)) (n o256 (f o388.1) (f o520))) (n o154.1 (n o222.1 (f o356) (f o486.1)) (n o290 (f o420) (f o552)))) (n o102 (n o136 (n o206 (n o338 (f o600.1) z) (f o470)) (n o272 (f o404) (f o536))) (n o172 (n o238.1 (f o372.1) (f o502.1)) (n o306 (f o438) (f o568))))))) (n PySem.W.boot_o_5 (n PySem.W.boot_o_9 (n o54 (n o70 (n o108.1 (n o178 (n o312 (f o574.1) z) (f o444.1)) (n o246 (f o378) (f o508))) (n o144 (n o212.1 (f o344.1) (f o476)) (n o278 (f o410) (f o542)))) (n o89 (n o126 (n o196 (n o328.1 (f o590) z) (f o460.1)) (n o262.1 (f o394) (f o526))) (n o160 (n o228 (f o362) (f o492)) (n o296 (f o428) (f o558.1))))) (n o62 (n o81 (n o118 (n o188 (n o320 (f o582) z) (f o452)) (n o254 (f o386.1) (f o518.1))) (n o152.1 (n o220 (f o354) (f o484)) (n o286 (f o418) (f o550)))) (n o100 (n o134 (n o204 (n o336 (f o598.1) z) (f o468)) (n o270 (f o402.1) (f o534))) (n o170 (n o236.1 (f o370) (f o500.1)) (n o304 (f o436) (f o566)))))) (n o45 (n o58 (n o77 (n o112 (n o182 (n o316.1 (f o578) z) (f o448)) (n o250.1 (f o382) (f o514))) (n o148 (n o216 (f o350) (f o480)) (n o282 (f o414.1) (f o546.1)))) (n o93 (n o130 (n o200.1 (n o332 (f o594) z) (f o464)) (n o266 (f o398) (f o530.1))) (n o166 (n o232 (f o366) (f o496)) (n o300.1 (f o432.1) (f o562))))) (n o66 (n o85 (n o122 (n o192 (n o324 (f o586.1) z) (f o456)) (n o258 (f o390) (f o522))) (n o156 (n o224.1 (f o358.1) (f o488.1)) (n o292 (f o422) (f o554)))) (n o104 (n o138 (n o208 (f o340) (f o472.1)) (n o274 (f o406) (f o538))) (n o174 (n o242 (f o374.1) (f o504)) (n o308 (f o440) (f o570)))))))) (n o49 (n PySem.W.boot_o_4 (n PySem.W.boot_o_8 (n o53 (n o69 (n o107 (n o177.1 (n o311 (f o573) z) (f o443)) (n o245.1 (f o377) (f o507.1))) (n o143 (n o211 (f o343) (f o475)) (n o277.1 (f o409.1) (f o541)))) (n o88.1 (n o125 (n o195 (n o327 (f o589) z) (f o459)) (n o261 (f o393.1) (f o525.1))) (n o159 (n o227 (f o361) (f o491)) (n o295 (f o427) (f o557))))) (n o61 (n o80 (n o115 (n o187 (n o319 (f o581.1) z) (f o451.1)) (n o253 (f o385) (f o517))) (n o151 (n o219.1 (f o353.1) (f o483)) (n o285 (f o417) (f o549)))) (n o99 (n o133 (n o203 (n o335.1 (f o597) z) (f o467.1)) (n o269 (f o401) (f o533))) (n o169 (n o235 (f o369) (f o499)) (n o303 (f o435) (f o565.1)))))) (n o511 (n o57 (n o76 (n o111 (n o181 (n o315 (f o577) z) (f o447)) (n o249 (f o381.1) (f o513))) (n o147 (n o215 (f o349) (f o479.1)) (n o281 (f o413) (f o545)))) (n o92 (n o129.1 (n o199 (n o331 (f o593.1) z) (f o463)) (n o265 (f o397) (f o529))) (n o165 (n o231.1 (f o365.1) (f o495.1)) (n o299 (f o431) (f o561))))) (n o65.1 (n o84 (n o121 (n o191 (n o323.1 (f o585) z) (f o455)) (n o257.1 (f o389) (f o521))) (n o155 (n o223 (f o357) (f o487)) (n o291 (f o421.1) (f o553.1)))) (n o103 (n o137 (n o207 (f o339) (f o471)) (n o273 (f o405) (f o537.1))) (n o173 (n o241 (f o373) (f o503)) (n o307 (f o439.1) (f o569))))))) (n PySem.W.boot_o_6 (n PySem.W.boot_o_10 (n o55 (n o71 (n o109 (n o179 (n o313 (f o575) z) (f o445)) (n o247 (f o379.1) (f o509.1))) (n o145 (n o213 (f o347) (f o477)) (n o279.1 (f o411) (f o543)))) (n o90 (n o127 (n o197 (n o329 (f o591.1) z) (f o461)) (n o263 (f o395.1) (f o527))) (n o161 (n o229.1 (f o363) (f o493.1)) (n o297 (f o429) (f o559))))) (n o63.1 (n o82 (n o119 (n o189 (n o321.1 (f o583) z) (f o453.1)) (n o255.1 (f o387) (f o519))) (n o153 (n o221 (f o355) (f o485)) (n o289 (f o419) (f o551.1)))) (n o101 (n o135 (n o205 (n o337.1 (f o599) z) (f o469)) (n o271 (f o403) (f o535))) (n o171 (n o237 (f o371) (f o501)) (n o305 (f o437.1) (f o567.1)))))) (n o46 (n o59 (n o78 (n o113 (n o183 (n o317 (f o579.1) z) (f o449)) (n o251 (f o383) (f o515))) (n o149 (n o217.1 (f o351.1) (f o481.1)) (n o283 (f o415) (f o547)))) (n o97 (n o131.1 (n o201 (n o333 (f o595) z) (f o465.1)) (n o267 (f o399) (f o531))) (n o167 (n o233 (f o367.1) (f o497)) (n o301 (f o433) (f o563))))) (n o67 (n o86.1 (n o123 (n o193 (n o325 (f o587) z) (f o457)) (n o259 (f o391) (f o523.1))) (n o157 (n o225 (f o359) (f o489)) (n o293 (f o423.1) (f o555)))) (n o105 (n o141 (n o209 (f o341) (f o473)) (n o275 (f o407.1) (f o539.1))) (n o175.1 (n o243.1 (f o375) (f o505)) (n o309 (f o441) (f o571)))))))))
noncomputable def t762 : Params → BT := (n PySem.W.boot_o_0 (n PySem.W.boot_o_1 (n o687 (n PySem.W.boot_o_7 (n o52 (n o96 (n o106 (n o176 (n o310 (f o572.1) z) (n o442 (f o704) z)) (n o244 (n o376 (f o638) z) (f o506))) (n o142 (n o210 (n o342.1 (f o606) z) (n o474.1 (f o736.1) z)) (n o276 (n o408 (f o670.1) z) (f o540)))) (n o87 (n o124 (n o194 (n o326 (f o588) z) (n o458.1 (f o720) z)) (n o260 (n o392 (f o654) z) (f o524))) (n o158 (n o226 (n o360.1 (f o622) z) (n o490 (f o752) z)) (n o294 (n o426 (f o686.1) z) (f o556))))) (n o60 (n o79 (n o114 (n o184 (n o318 (f o580) z) (n o450 (f o712.1) z)) (n o252 (n o384 (f o646) z) (f o516.1))) (n o150 (n o218 (n o352 (f o614.1) z) (n o482 (f o744) z)) (n o284 (n o416.1 (f o678) z) (f o548)))) (n o98 (n o132 (n o202 (n o334 (f o596) z) (n o466 (f o728) z)) (n o268 (n o400.1 (f o662) z) (f o532.1))) (n o168 (n o234 (n o368 (f o630.1) z) (n o498 (f o760.1) z)) (n o302.1 (n o434 (f o696.1) z) (f o564)))))) (n o43 (n o56 (n o75 (n o110.1 (n o180 (n o314.1 (f o576) z) (n o446.1 (f o708) z)) (n o248.1 (n o380 (f o642.1) z) (f o512))) (n o146 (n o214.1 (n o348 (f o610) z) (n o478 (f o740) z)) (n o280 (n o412 (f o674) z) (f o544.1)))) (n o91 (n o128 (n o198.1 (n o330.1 (f o592) z) (n o462 (f o724.1) z)) (n o264.1 (n o396 (f o658.1) z) (f o528))) (n o164 (n o230 (n o364 (f o626) z) (n o494 (f o756) z)) (n o298 (n o430.1 (f o692) z) (f o560.1))))) (n o64 (n o83 (n o120 (n o190 (n o322 (f o584.1) z) (n o454 (f o716) z)) (n o256 (n o388.1 (f o650) z) (f o520))) (n o154.1 (n o222.1 (n o356 (f o618) z) (n o486.1 (f o748.1) z)) (n o290 (n o420 (f o682) z) (f o552)))) (n o102 (n o136 (n o206 (n o338 (f o600.1) z) (n o470 (f o732) z)) (n o272 (n o404 (f o666) z) (f o536))) (n o172 (n o238.1 (n o372.1 (f o634) z) (f o502.1)) (n o306 (n o438 (f o700) z) (f o568))))))) (n PySem.W.boot_o_5 (n PySem.W.boot_o_9 (n o54 (n o70 (n o108.1 (n o178 (n o312 (f o574.1) z) (n o444.1 (f o706) z)) (n o246 (n o378 (f o640) z) (f o508))) (n o144 (n o212.1 (n o344.1 (f o608) z) (n o476 (f o738) z)) (n o278 (n o410 (f o672.1) z) (f o542)))) (n o89 (n o126 (n o196 (n o328.1 (f o590) z) (n o460.1 (f o722.1) z)) (n o262.1 (n o394 (f o656.1) z) (f o526))) (n o160 (n o228 (n o362 (f o624) z) (n o492 (f o754) z)) (n o296 (n o428 (f o690) z) (f o558.1))))) (n o62 (n o81 (n o118 (n o188 (n o320 (f o582) z) (n o452 (f o714) z)) (n o254 (n o386.1 (f o648) z) (f o518.1))) (n o152.1 (n o220 (n o354 (f o616.1) z) (n o484 (f o746) z)) (n o286 (n o418 (f o680) z) (f o550)))) (n o100 (n o134 (n o204 (n o336 (f o598.1) z) (n o468 (f o730) z)) (n o270 (n o402.1 (f o664) z) (f o534))) (n o170 (n o236.1 (n o370 (f o632) z) (n o500.1 (f o762.1) z)) (n o304 (n o436 (f o698.1) z) (f o566)))))) (n o45 (n o58 (n o77 (n o112 (n o182 (n o316.1 (f o578) z) (n o448 (f o710.1) z)) (n o250.1 (n o382 (f o644.1) z) (f o514))) (n o148 (n o216 (n o350 (f o612) z) (n o480 (f o742) z)) (n o282 (n o414.1 (f o676) z) (f o546.1)))) (n o93 (n o130 (n o200.1 (n o332 (f o594) z) (n o464 (f o726) z)) (n o266 (n o398 (f o660) z) (f o530.1))) (n o166 (n o232 (n o366 (f o628.1) z) (n o496 (f o758) z)) (n o300.1 (n o432.1 (f o694) z) (f o562))))) (n o66 (n o85 (n o122 (n o192 (n o324 (f o586.1) z) (n o456 (f o718) z)) (n o258 (n o390 (f o652) z) (f o522))) (n o156 (n o224.1 (n o358.1 (f o620) z) (n o488.1 (f o750.1) z)) (n o292 (n o422 (f o684.1) z) (f o554)))) (n o104 (n o138 (n o208 (n o340 (f o604) z) (n o472.1 (f o734.1) z)) (n o274 (n o406 (f o668) z) (f o538))) (n o174 (n o242 (n o374.1 (f o636) z) (f o504)) (n o308 (n o440 (f o702) z) (f o570)))))))) (n o49 (n PySem.W.boot_o_4 (n PySem.W.boot_o_8 (n o53 (n o69 (n o107 (n o177.1 (n o311 (f o573) z) (n o443 (f o705.1) z)) (n o245.1 (n o377 (f o639) z) (f o507.1))) (n o143 (n o211 (n o343 (f o607.1) z) (n o475 (f o737) z)) (n o277.1 (n o409.1 (f o671) z) (f o541)))) (n o88.1 (n o125 (n o195 (n o327 (f o589) z) (n o459 (f o721) z)) (n o261 (n o393.1 (f o655) z) (f o525.1))) (n o159 (n o227 (n o361 (f o623.1) z) (n o491 (f o753) z)) (n o295 (n o427 (f o689) z) (f o557))))) (n o61 (n o80 (n o115 (n o187 (n o319 (f o581.1) z) (n o451.1 (f o713) z)) (n o253 (n o385 (f o647) z) (f o517))) (n o151 (n o219.1 (n o353.1 (f o615) z) (n o483 (f o745) z)) (n o285 (n o417 (f o679.1) z) (f o549)))) (n o99 (n o133 (n o203 (n o335.1 (f o597) z) (n o467.1 (f o729.1) z)) (n o269 (n o401 (f o663.1) z) (f o533))) (n o169 (n o235 (n o369 (f o631) z) (n o499 (f o761) z)) (n o303 (n o435 (f o697) z) (f o565.1)))))) (n o688 (n o57 (n o76 (n o111 (n o181 (n o315 (f o577) z) (n o447 (f o709) z)) (n o249 (n o381.1 (f o643) z) (f o513))) (n o147 (n o215 (n o349 (f o611) z) (n o479.1 (f o741.1) z)) (n o281 (n o413 (f o675) z) (f o545)))) (n o92 (n o129.1 (n o199 (n o331 (f o593.1) z) (n o463 (f o725) z)) (n o265 (n o397 (f o659) z) (f o529))) (n o165 (n o231.1 (n o365.1 (f o627) z) (n o495.1 (f o757.1) z)) (n o299 (n o431 (f o693.1) z) (f o561))))) (n o65.1 (n o84 (n o121 (n o191 (n o323.1 (f o585) z) (n o455 (f o717.1) z)) (n o257.1 (n o389 (f o651.1) z) (f o521))) (n o155 (n o223 (n o357 (f o619) z) (n o487 (f o749) z)) (n o291 (n o421.1 (f o683) z) (f o553.1)))) (n o103 (n o137 (n o207 (n o339 (f o603) z) (n o471 (f o733) z)) (n o273 (n o405 (f o667) z) (f o537.1))) (n o173 (n o241 (n o373 (f o635.1) z) (f o503)) (n o307 (n o439.1 (f o701) z) (f o569))))))) (n PySem.W.boot_o_6 (n PySem.W.boot_o_10 (n o55 (n o71 (n o109 (n o179 (n o313 (f o575) z) (n o445 (f o707) z)) (n o247 (n o379.1 (f o641) z) (f o509.1))) (n o145 (n o213 (n o347 (f o609.1) z) (n o477 (f o739) z)) (n o279.1 (n o411 (f o673) z) (f o543)))) (n o90 (n o127 (n o197 (n o329 (f o591.1) z) (n o461 (f o723) z)) (n o263 (n o395.1 (f o657) z) (f o527))) (n o161 (n o229.1 (n o363 (f o625) z) (n o493.1 (f o755.1) z)) (n o297 (n o429 (f o691.1) z) (f o559))))) (n o63.1 (n o82 (n o119 (n o189 (n o321.1 (f o583) z) (n o453.1 (f o715.1) z)) (n o255.1 (n o387 (f o649.1) z) (f o519))) (n o153 (n o221 (n o355 (f o617) z) (n o485 (f o747) z)) (n o289 (n o419 (f o681) z) (f o551.1)))) (n o101 (n o135 (n o205 (n o337.1 (f o599) z) (n o469 (f o731.1) z)) (n o271 (n o403 (f o665.1) z) (f o535))) (n o171 (n o237 (n o371 (f o633) z) (f o501)) (n o305 (n o437.1 (f o699) z) (f o567.1)))))) (n o46 (n o59 (n o78 (n o113 (n o183 (n o317 (f o579.1) z) (n o449 (f o711) z)) (n o251 (n o383 (f o645) z) (f o515))) (n o149 (n o217.1 (n o351.1 (f o613) z) (n o481.1 (f o743.1) z)) (n o283 (n o415 (f o677.1) z) (f o547)))) (n o97 (n o131.1 (n o201 (n o333 (f o595) z) (n o465.1 (f o727) z)) (n o267 (n o399 (f o661) z) (f o531))) (n o167 (n o233 (n o367.1 (f o629) z) (n o497 (f o759) z)) (n o301 (n o433 (f o695) z) (f o563))))) (n o67 (n o86.1 (n o123 (n o193 (n o325 (f o587) z) (n o457 (f o719) z)) (n o259 (n o391 (f o653) z) (f o523.1))) (n o157 (n o225 (n o359 (f o621.1) z) (n o489 (f o751) z)) (n o293 (n o423.1 (f o685) z) (f o555)))) (n o105 (n o141 (n o209 (n o341 (f o605) z) (n o473 (f o735) z)) (n o275 (n o407.1 (f o669) z) (f o539.1))) (n o175.1 (n o243.1 (n o375 (f o637.1) z) (f o505)) (n o309 (n o441 (f o703.1) z) (f o571)))))))))
noncomputable def objs : List (Params → Obj) := PySem.W.boot_o_0 :: PySem.W.boot_o_1 :: o49 :: o687 :: PySem.W.boot_o_4 :: PySem.W.boot_o_5 :: PySem.W.boot_o_6 :: PySem.W.boot_o_7 :: PySem.W.boot_o_8 :: PySem.W.boot_o_9 :: PySem.W.boot_o_10 :: o43 :: o688 :: o45 :: o46 :: o52 :: o53 :: o54 :: o55 :: o56 :: o57 :: o58 :: o59 :: o60 :: o61 :: o62 :: o63.1 :: o64 :: o65.1 :: o66 :: o67 :: o96 :: o69 :: o70 :: o71 :: o75 :: o76 :: o77 :: o78 :: o79 :: o80 :: o81 :: o82 :: o83 :: o84 :: o85 :: o86.1 :: o87 :: o88.1 :: o89 :: o90 :: o91 :: o92 :: o93 :: o97 :: o98 :: o99 :: o100 :: o101 :: o102 :: o103 :: o104 :: o105 :: o106 :: o107 :: o108.1 :: o109 :: o110.1 :: o111 :: o112 :: o113 :: o114 :: o115 :: o118 :: o119 :: o120 :: o121 :: o122 :: o123 :: o124 :: o125 :: o126 :: o127 :: o128 :: o129.1 :: o130 :: o131.1 :: o132 :: o133 :: o134 :: o135 :: o136 :: o137 :: o138 :: o141 :: o142 :: o143 :: o144 :: o145 :: o146 :: o147 :: o148 :: o149 :: o150 :: o151 :: o152.1 :: o153 :: o154.1 :: o155 :: o156 :: o157 :: o158 :: o159 :: o160 :: o161 :: o164 :: o165 :: o166 :: o167 :: o168 :: o169 :: o170 :: o171 :: o172 :: o173 :: o174 :: o175.1 :: o176 :: o177.1 :: o178 :: o179 :: o180 :: o181 :: o182 :: o183 :: o184 :: o187 :: o188 :: o189 :: o190 :: o191 :: o192 :: o193 :: o194 :: o195 :: o196 :: o197 :: o198.1 :: o199 :: o200.1 :: o201 :: o202 :: o203 :: o204 :: o205 :: o206 :: o207 :: o208 :: o209 :: o210 :: o211 :: o212.1 :: o213 :: o214.1 :: o215 :: o216 :: o217.1 :: o218 :: o219.1 :: o220 :: o221 :: o222.1 :: o223 :: o224.1 :: o225 :: o226 :: o227 :: o228 :: o229.1 :: o230 :: o231.1 :: o232 :: o233 :: o234 :: o235 :: o236.1 :: o237 :: o238.1 :: o241 :: o242 :: o243.1 :: o244 :: o245.1 :: o246 :: o247 :: o248.1 :: o249 :: o250.1 :: o251 :: o252 :: o253 :: o254 :: o255.1 :: o256 :: o257.1 :: o258 :: o259 :: o260 :: o261 :: o262.1 :: o263 :: o264.1 :: o265 :: o266 :: o267 :: o268 :: o269 :: o270 :: o271 :: o272 :: o273 :: o274 :: o275 :: o276 :: o277.1 :: o278 :: o279.1 :: o280 :: o281 :: o282 :: o283 :: o284 :: o285 :: o286 :: o289 :: o290 :: o291 :: o292 :: o293 :: o294 :: o295 :: o296 :: o297 :: o298 :: o299 :: o300.1 :: o301 :: o302.1 :: o303 :: o304 :: o305 :: o306 :: o307 :: o308 :: o309 :: o310 :: o311 :: o312 :: o313 :: o314.1 :: o315 :: o316.1 :: o317 :: o318 :: o319 :: o320 :: o321.1 :: o322 :: o323.1 :: o324 :: o325 :: o326 :: o327 :: o328.1 :: o329 :: o330.1 :: o331 :: o332 :: o333 :: o334 :: o335.1 :: o336 :: o337.1 :: o338 :: o339 :: o340 :: o341 :: o342.1 :: o343 :: o344.1 :: o347 :: o348 :: o349 :: o350 :: o351.1 :: o352 :: o353.1 :: o354 :: o355 :: o356 :: o357 :: o358.1 :: o359 :: o360.1 :: o361 :: o362 :: o363 :: o364 :: o365.1 :: o366 :: o367.1 :: o368 :: o369 :: o370 :: o371 :: o372.1 :: o373 :: o374.1 :: o375 :: o376 :: o377 :: o378 :: o379.1 :: o380 :: o381.1 :: o382 :: o383 :: o384 :: o385 :: o386.1 :: o387 :: o388.1 :: o389 :: o390 :: o391 :: o392 :: o393.1 :: o394 :: o395.1 :: o396 :: o397 :: o398 :: o399 :: o400.1 :: o401 :: o402.1 :: o403 :: o404 :: o405 :: o406 :: o407.1 :: o408 :: o409.1 :: o410 :: o411 :: o412 :: o413 :: o414.1 :: o415 :: o416.1 :: o417 :: o418 :: o419 :: o420 :: o421.1 :: o422 :: o423.1 :: o426 :: o427 :: o428 :: o429 :: o430.1 :: o431 :: o432.1 :: o433 :: o434 :: o435 :: o436 :: o437.1 :: o438 :: o439.1 :: o440 :: o441 :: o442 :: o443 :: o444.1 :: o445 :: o446.1 :: o447 :: o448 :: o449 :: o450 :: o451.1 :: o452 :: o453.1 :: o454 :: o455 :: o456 :: o457 :: o458.1 :: o459 :: o460.1 :: o461 :: o462 :: o463 :: o464 :: o465.1 :: o466 :: o467.1 :: o468 :: o469 :: o470 :: o471 :: o472.1 :: o473 :: o474.1 :: o475 :: o476 :: o477 :: o478 :: o479.1 :: o480 :: o481.1 :: o482 :: o483 :: o484 :: o485 :: o486.1 :: o487 :: o488.1 :: o489 :: o490 :: o491 :: o492 :: o493.1 :: o494 :: o495.1 :: o496 :: o497 :: o498 :: o499 :: o500.1 :: o501 :: o502.1 :: o503 :: o504 :: o505 :: o506 :: o507.1 :: o508 :: o509.1 :: o512 :: o513 :: o514 :: o515 :: o516.1 :: o517 :: o518.1 :: o519 :: o520 :: o521 :: o522 :: o523.1 :: o524 :: o525.1 :: o526 :: o527 :: o528 :: o529 :: o530.1 :: o531 :: o532.1 :: o533 :: o534 :: o535 :: o536 :: o537.1 :: o538 :: o539.1 :: o540 :: o541 :: o542 :: o543 :: o544.1 :: o545 :: o546.1 :: o547 :: o548 :: o549 :: o550 :: o551.1 :: o552 :: o553.1 :: o554 :: o555 :: o556 :: o557 :: o558.1 :: o559 :: o560.1 :: o561 :: o562 :: o563 :: o564 :: o565.1 :: o566 :: o567.1 :: o568 :: o569 :: o570 :: o571 :: o572.1 :: o573 :: o574.1 :: o575 :: o576 :: o577 :: o578 :: o579.1 :: o580 :: o581.1 :: o582 :: o583 :: o584.1 :: o585 :: o586.1 :: o587 :: o588 :: o589 :: o590 :: o591.1 :: o592 :: o593.1 :: o594 :: o595 :: o596 :: o597 :: o598.1 :: o599 :: o600.1 :: o603 :: o604 :: o605 :: o606 :: o607.1 :: o608 :: o609.1 :: o610 :: o611 :: o612 :: o613 :: o614.1 :: o615 :: o616.1 :: o617 :: o618 :: o619 :: o620 :: o621.1 :: o622 :: o623.1 :: o624 :: o625 :: o626 :: o627 :: o628.1 :: o629 :: o630.1 :: o631 :: o632 :: o633 :: o634 :: o635.1 :: o636 :: o637.1 :: o638 :: o639 :: o640 :: o641 :: o642.1 :: o643 :: o644.1 :: o645 :: o646 :: o647 :: o648 :: o649.1 :: o650 :: o651.1 :: o652 :: o653 :: o654 :: o655 :: o656.1 :: o657 :: o658.1 :: o659 :: o660 :: o661 :: o662 :: o663.1 :: o664 :: o665.1 :: o666 :: o667 :: o668 :: o669 :: o670.1 :: o671 :: o672.1 :: o673 :: o674 :: o675 :: o676 :: o677.1 :: o678 :: o679.1 :: o680 :: o681 :: o682 :: o683 :: o684.1 :: o685 :: o686.1 :: o689 :: o690 :: o691.1 :: o692 :: o693.1 :: o694 :: o695 :: o696.1 :: o697 :: o698.1 :: o699 :: o700 :: o701 :: o702 :: o703.1 :: o704 :: o705.1 :: o706 :: o707 :: o708 :: o709 :: o710.1 :: o711 :: o712.1 :: o713 :: o714 :: o715.1 :: o716 :: o717.1 :: o718 :: o719 :: o720 :: o721 :: o722.1 :: o723 :: o724.1 :: o725 :: o726 :: o727 :: o728 :: o729.1 :: o730 :: o731.1 :: o732 :: o733 :: o734.1 :: o735 :: o736.1 :: o737 :: o738 :: o739 :: o740 :: o741.1 :: o742 :: o743.1 :: o744 :: o745 :: o746 :: o747 :: o748.1 :: o749 :: o750.1 :: o751 :: o752 :: o753 :: o754 :: o755.1 :: o756 :: o757.1 :: o758 :: o759 :: o760.1 :: o761 :: o762.1 :: []
noncomputable def heap_39 : Params → Frag := fun P => (nat_lit 2, o49 P) :: (nat_lit 3, o687 P) :: (nat_lit 15, o52 P) :: (nat_lit 22, o59 P) :: (nat_lit 24, o61 P) :: (nat_lit 25, o62 P) :: (nat_lit 27, o64 P) :: (nat_lit 28, o65.1 P) :: (nat_lit 29, o66 P) :: (nat_lit 30, o67 P) :: (nat_lit 31, o96 P) :: (nat_lit 32, o69 P) :: (nat_lit 35, o75 P) :: (nat_lit 42, o82 P) :: (nat_lit 44, o84 P) :: (nat_lit 45, o85 P) :: (nat_lit 47, o87 P) :: (nat_lit 48, o88.1 P) :: (nat_lit 49, o89 P) :: (nat_lit 50, o90 P) :: (nat_lit 51, o91 P) :: (nat_lit 54, o97 P) :: (nat_lit 61, o104 P) :: (nat_lit 63, o106 P) :: (nat_lit 64, o107 P) :: (nat_lit 66, o109 P) :: (nat_lit 67, o110.1 P) :: (nat_lit 68, o111 P) :: (nat_lit 69, o112 P) :: (nat_lit 70, o113 P) :: (nat_lit 80, o125 P) :: (nat_lit 82, o127 P) :: (nat_lit 83, o128 P) :: (nat_lit 85, o130 P) :: (nat_lit 86, o131.1 P) :: (nat_lit 87, o132 P) :: (nat_lit 88, o133 P) :: (nat_lit 89, o134 P) :: (nat_lit 90, o135 P) :: (nat_lit 91, o136 P) :: (nat_lit 101, o148 P) :: (nat_lit 103, o150 P) :: (nat_lit 104, o151 P) :: (nat_lit 106, o153 P) :: (nat_lit 107, o154.1 P) :: (nat_lit 108, o155 P) :: (nat_lit 109, o156 P) :: (nat_lit 110, o157 P) :: (nat_lit 111, o158 P) :: (nat_lit 112, o159 P) :: (nat_lit 122, o171 P) :: (nat_lit 124, o173 P) :: (nat_lit 125, o174 P) :: (nat_lit 127, o176 P) :: (nat_lit 128, o177.1 P) :: (nat_lit 129, o178 P) :: (nat_lit 130, o179 P) :: (nat_lit 131, o180 P) :: (nat_lit 132, o181 P) :: (nat_lit 133, o182 P) :: (nat_lit 143, o194 P) :: (nat_lit 145, o196 P) :: (nat_lit 146, o197 P) :: (nat_lit 148, o199 P) :: (nat_lit 149, o200.1 P) :: (nat_lit 150, o201 P) :: (nat_lit 151, o202 P) :: (nat_lit 152, o203 P) :: (nat_lit 153, o204 P) :: (nat_lit 154, o205 P) :: (nat_lit 157, o208 P) :: (nat_lit 159, o210 P) :: (nat_lit 160, o211 P) :: (nat_lit 162, o213 P) :: (nat_lit 163, o214.1 P) :: (nat_lit 164, o215 P) :: (nat_lit 167, o218 P) :: (nat_lit 168, o219.1 P) :: (nat_lit 169, o220 P) :: (nat_lit 172, o223 P) :: (nat_lit 173, o224.1 P) :: (nat_lit 174, o225 P) :: (nat_lit 176, o227 P) :: (nat_lit 177, o228 P) :: (nat_lit 179, o230 P) :: (nat_lit 180, o231.1 P) :: (nat_lit 181, o232 P) :: (nat_lit 183, o234 P) :: (nat_lit 184, o235 P) :: (nat_lit 186, o237 P) :: (nat_lit 187, o238.1 P) :: (nat_lit 188, o241 P) :: (nat_lit 191, o244 P) :: (nat_lit 192, o245.1 P) :: (nat_lit 193, o246 P) :: (nat_lit 196, o249 P) :: (nat_lit 197, o250.1 P) :: (nat_lit 198, o251 P) :: (nat_lit 200, o253 P) :: (nat_lit 201, o254 P) :: (nat_lit 203, o256 P) :: (nat_lit 204, o257.1 P) :: (nat_lit 205, o258 P) :: (nat_lit 207, o260 P) :: (nat_lit 208, o261 P) :: (nat_lit 210, o263 P) :: (nat_lit 211, o264.1 P) :: (nat_lit 212, o265 P) :: (nat_lit 220, o273 P) :: (nat_lit 222, o275 P) :: (nat_lit 223, o276 P) :: (nat_lit 225, o278 P) :: (nat_lit 226, o279.1 P) :: (nat_lit 227, o280 P) :: (nat_lit 228, o281 P) :: (nat_lit 229, o282 P) :: (nat_lit 230, o283 P) :: (nat_lit 231, o284 P) :: (nat_lit 241, o296 P) :: (nat_lit 243, o298 P) :: (nat_lit 244, o299 P) :: (nat_lit 246, o301 P) :: (nat_lit 247, o302.1 P) :: (nat_lit 248, o303 P) :: (nat_lit 249, o304 P) :: (nat_lit 250, o305 P) :: (nat_lit 251, o306 P) :: (nat_lit 252, o307 P) :: (nat_lit 255, o310 P) :: (nat_lit 257, o312 P) :: (nat_lit 258, o313 P) :: (nat_lit 260, o315 P) :: (nat_lit 261, o316.1 P) :: (nat_lit 262, o317 P) :: (nat_lit 264, o319 P) :: (nat_lit 265, o320 P) :: (nat_lit 267, o322 P) :: (nat_lit 268, o323.1 P) :: (nat_lit 269, o324 P) :: (nat_lit 271, o326 P) :: (nat_lit 272, o327 P) :: (nat_lit 274, o329 P) :: (nat_lit 275, o330.1 P) :: (nat_lit 276, o331 P) :: (nat_lit 278, o333 P) :: (nat_lit 279, o334 P) :: (nat_lit 281, o336 P) :: (nat_lit 282, o337.1 P) :: (nat_lit 283, o338 P) :: (nat_lit 285, o340 P) :: (nat_lit 286, o341 P) :: (nat_lit 288, o343 P) :: (nat_lit 289, o344.1 P) :: (nat_lit 290, o347 P) :: (nat_lit 292, o349 P) :: (nat_lit 293, o350 P) :: (nat_lit 295, o352 P) :: (nat_lit 296, o353.1 P) :: (nat_lit 297, o354 P) :: (nat_lit 299, o356 P) :: (nat_lit 300, o357 P) :: (nat_lit 302, o359 P) :: (nat_lit 303, o360.1 P) :: (nat_lit 304, o361 P) :: (nat_lit 306, o363 P) :: (nat_lit 307, o364 P) :: (nat_lit 309, o366 P) :: (nat_lit 310, o367.1 P) :: (nat_lit 311, o368 P) :: (nat_lit 313, o370 P) :: (nat_lit 314, o371 P) :: (nat_lit 316, o373 P) :: (nat_lit 317, o374.1 P) :: (nat_lit 318, o375 P) :: (nat_lit 320, o377 P) :: (nat_lit 321, o378 P) :: (nat_lit 323, o380 P) :: (nat_lit 324, o381.1 P) :: (nat_lit 325, o382 P) :: (nat_lit 327, o384 P) :: (nat_lit 328, o385 P) :: (nat_lit 330, o387 P) :: (nat_lit 331, o388.1 P) :: (nat_lit 332, o389 P) :: (nat_lit 334, o391 P) :: (nat_lit 335, o392 P) :: (nat_lit 337, o394 P) :: (nat_lit 338, o395.1 P) :: (nat_lit 339, o396 P) :: (nat_lit 341, o398 P) :: (nat_lit 342, o399 P) :: (nat_lit 344, o401 P) :: (nat_lit 345, o402.1 P) :: (nat_lit 346, o403 P) :: (nat_lit 348, o405 P) :: (nat_lit 349, o406 P) :: (nat_lit 351, o408 P) :: (nat_lit 352, o409.1 P) :: (nat_lit 353, o410 P) :: (nat_lit 355, o412 P) :: (nat_lit 356, o413 P) :: (nat_lit 358, o415 P) :: (nat_lit 359, o416.1 P) :: (nat_lit 360, o417 P) :: (nat_lit 362, o419 P) :: (nat_lit 363, o420 P) :: (nat_lit 365, o422 P) :: (nat_lit 366, o423.1 P) :: (nat_lit 367, o426 P) :: (nat_lit 369, o428 P) :: (nat_lit 370, o429 P) :: (nat_lit 372, o431 P) :: (nat_lit 373, o432.1 P) :: (nat_lit 374, o433 P) :: (nat_lit 376, o435 P) :: (nat_lit 377, o436 P) :: (nat_lit 379, o438 P) :: (nat_lit 380, o439.1 P) :: (nat_lit 381, o440 P) :: (nat_lit 383, o442 P) :: (nat_lit 384, o443 P) :: (nat_lit 386, o445 P) :: (nat_lit 387, o446.1 P) :: (nat_lit 388, o447 P) :: (nat_lit 390, o449 P) :: (nat_lit 391, o450 P) :: (nat_lit 393, o452 P) :: (nat_lit 394, o453.1 P) :: (nat_lit 395, o454 P) :: (nat_lit 397, o456 P) :: (nat_lit 398, o457 P) :: (nat_lit 400, o459 P) :: (nat_lit 401, o460.1 P) :: (nat_lit 402, o461 P) :: (nat_lit 404, o463 P) :: (nat_lit 405, o464 P) :: (nat_lit 407, o466 P) :: (nat_lit 408, o467.1 P) :: (nat_lit 409, o468 P) :: (nat_lit 411, o470 P) :: (nat_lit 412, o471 P) :: (nat_lit 414, o473 P) :: (nat_lit 415, o474.1 P) :: (nat_lit 416, o475 P) :: (nat_lit 418, o477 P) :: (nat_lit 419, o478 P) :: (nat_lit 421, o480 P) :: (nat_lit 422, o481.1 P) :: (nat_lit 423, o482 P) :: (nat_lit 425, o484 P) :: (nat_lit 426, o485 P) :: (nat_lit 428, o487 P) :: (nat_lit 429, o488.1 P) :: (nat_lit 430, o489 P) :: (nat_lit 432, o491 P) :: (nat_lit 433, o492 P) :: (nat_lit 435, o494 P) :: (nat_lit 436, o495.1 P) :: (nat_lit 437, o496 P) :: (nat_lit 439, o498 P) :: (nat_lit 440, o499 P) :: (nat_lit 442, o501 P) :: (nat_lit 443, o502.1 P) :: (nat_lit 444, o503 P) :: (nat_lit 446, o505 P) :: (nat_lit 447, o506 P) :: (nat_lit 449, o508 P) :: (nat_lit 450, o509.1 P) :: (nat_lit 451, o512 P) :: (nat_lit 453, o514 P) :: (nat_lit 454, o515 P) :: (nat_lit 456, o517 P) :: (nat_lit 457, o518.1 P) :: (nat_lit 458, o519 P) :: (nat_lit 460, o521 P) :: (nat_lit 461, o522 P) :: (nat_lit 463, o524 P) :: (nat_lit 464, o525.1 P) :: (nat_lit 465, o526 P) :: (nat_lit 467, o528 P) :: (nat_lit 468, o529 P) :: (nat_lit 470, o531 P) :: (nat_lit 471, o532.1 P) :: (nat_lit 472, o533 P) :: (nat_lit 474, o535 P) :: (nat_lit 475, o536 P) :: (nat_lit 477, o538 P) :: (nat_lit 478, o539.1 P) :: (nat_lit 479, o540 P) :: (nat_lit 481, o542 P) :: (nat_lit 482, o543 P) :: (nat_lit 484, o545 P) :: (nat_lit 485, o546.1 P) :: (nat_lit 486, o547 P) :: (nat_lit 488, o549 P) :: (nat_lit 489, o550 P) :: (nat_lit 491, o552 P) :: (nat_lit 492, o553.1 P) :: (nat_lit 493, o554 P) :: (nat_lit 495, o556 P) :: (nat_lit 496, o557 P) :: (nat_lit 498, o559 P) :: (nat_lit 499, o560.1 P) :: (nat_lit 500, o561 P) :: (nat_lit 502, o563 P) :: (nat_lit 503, o564 P) :: (nat_lit 505, o566 P) :: (nat_lit 506, o567.1 P) :: (nat_lit 507, o568 P) :: (nat_lit 509, o570 P) :: (nat_lit 510, o571 P) :: (nat_lit 512, o573 P) :: (nat_lit 513, o574.1 P) :: (nat_lit 514, o575 P) :: (nat_lit 516, o577 P) :: (nat_lit 517, o578 P) :: (nat_lit 519, o580 P) :: (nat_lit 520, o581.1 P) :: (nat_lit 521, o582 P) :: (nat_lit 524, o585 P) :: (nat_lit 525, o586.1 P) :: (nat_lit 526, o587 P) :: (nat_lit 528, o589 P) :: (nat_lit 529, o590 P) :: (nat_lit 531, o592 P) :: (nat_lit 532, o593.1 P) :: (nat_lit 533, o594 P) :: (nat_lit 535, o596 P) :: (nat_lit 536, o597 P) :: (nat_lit 538, o599 P) :: (nat_lit 539, o600.1 P) :: (nat_lit 540, o603 P) :: (nat_lit 542, o605 P) :: (nat_lit 543, o606 P) :: (nat_lit 545, o608 P) :: (nat_lit 546, o609.1 P) :: (nat_lit 547, o610 P) :: (nat_lit 549, o612 P) :: (nat_lit 550, o613 P) :: (nat_lit 552, o615 P) :: (nat_lit 553, o616.1 P) :: (nat_lit 554, o617 P) :: (nat_lit 556, o619 P) :: (nat_lit 557, o620 P) :: (nat_lit 559, o622 P) :: (nat_lit 560, o623.1 P) :: (nat_lit 561, o624 P) :: (nat_lit 563, o626 P) :: (nat_lit 564, o627 P) :: (nat_lit 566, o629 P) :: (nat_lit 567, o630.1 P) :: (nat_lit 568, o631 P) :: (nat_lit 570, o633 P) :: (nat_lit 571, o634 P) :: (nat_lit 573, o636 P) :: (nat_lit 574, o637.1 P) :: (nat_lit 575, o638 P) :: (nat_lit 577, o640 P) :: (nat_lit 578, o641 P) :: (nat_lit 580, o643 P) :: (nat_lit 581, o644.1 P) :: (nat_lit 582, o645 P) :: (nat_lit 584, o647 P) :: (nat_lit 585, o648 P) :: (nat_lit 587, o650 P) :: (nat_lit 588, o651.1 P) :: (nat_lit 589, o652 P) :: (nat_lit 591, o654 P) :: (nat_lit 592, o655 P) :: (nat_lit 594, o657 P) :: (nat_lit 595, o658.1 P) :: (nat_lit 596, o659 P) :: (nat_lit 598, o661 P) :: (nat_lit 599, o662 P) :: (nat_lit 601, o664 P) :: (nat_lit 602, o665.1 P) :: (nat_lit 603, o666 P) :: (nat_lit 605, o668 P) :: (nat_lit 606, o669 P) :: (nat_lit 608, o671 P) :: (nat_lit 609, o672.1 P) :: (nat_lit 610, o673 P) :: (nat_lit 612, o675 P) :: (nat_lit 613, o676 P) :: (nat_lit 615, o678 P) :: (nat_lit 616, o679.1 P) :: (nat_lit 617, o680 P) :: (nat_lit 619, o682 P) :: (nat_lit 620, o683 P) :: (nat_lit 622, o685 P) :: (nat_lit 623, o686.1 P) :: (nat_lit 624, o689 P) :: (nat_lit 627, o692 P) :: (nat_lit 628, o693.1 P) :: (nat_lit 629, o694 P) :: (nat_lit 632, o697 P) :: (nat_lit 633, o698.1 P) :: (nat_lit 634, o699 P) :: (nat_lit 636, o701 P) :: (nat_lit 637, o702 P) :: (nat_lit 639, o704 P) :: (nat_lit 640, o705.1 P) :: (nat_lit 641, o706 P) :: (nat_lit 643, o708 P) :: (nat_lit 644, o709 P) :: (nat_lit 646, o711 P) :: (nat_lit 647, o712.1 P) :: (nat_lit 648, o713 P) :: (nat_lit 651, o716 P) :: (nat_lit 652, o717.1 P) :: (nat_lit 653, o718 P) :: (nat_lit 655, o720 P) :: (nat_lit 656, o721 P) :: (nat_lit 658, o723 P) :: (nat_lit 659, o724.1 P) :: (nat_lit 660, o725 P) :: (nat_lit 662, o727 P) :: (nat_lit 663, o728 P) :: (nat_lit 665, o730 P) :: (nat_lit 666, o731.1 P) :: (nat_lit 667, o732 P) :: (nat_lit 670, o735 P) :: (nat_lit 671, o736.1 P) :: (nat_lit 672, o737 P) :: (nat_lit 674, o739 P) :: (nat_lit 675, o740 P) :: (nat_lit 677, o742 P) :: (nat_lit 678, o743.1 P) :: (nat_lit 679, o744 P) :: (nat_lit 681, o746 P) :: (nat_lit 682, o747 P) :: (nat_lit 684, o749 P) :: (nat_lit 685, o750.1 P) :: (nat_lit 686, o751 P) :: (nat_lit 688, o753 P) :: (nat_lit 689, o754 P) :: (nat_lit 691, o756 P) :: (nat_lit 692, o757.1 P) :: (nat_lit 693, o758 P) :: (nat_lit 696, o761 P) :: (nat_lit 697, o762.1 P) :: []
noncomputable def addrs : List Addr := nat_lit 2 :: nat_lit 3 :: nat_lit 15 :: nat_lit 22 :: nat_lit 24 :: nat_lit 25 :: nat_lit 27 :: nat_lit 28 :: nat_lit 29 :: nat_lit 30 :: nat_lit 31 :: nat_lit 32 :: nat_lit 35 :: nat_lit 42 :: nat_lit 44 :: nat_lit 45 :: nat_lit 47 :: nat_lit 48 :: nat_lit 49 :: nat_lit 50 :: nat_lit 51 :: nat_lit 54 :: nat_lit 61 :: nat_lit 63 :: nat_lit 64 :: nat_lit 66 :: nat_lit 67 :: nat_lit 68 :: nat_lit 69 :: nat_lit 70 :: nat_lit 80 :: nat_lit 82 :: nat_lit 83 :: nat_lit 85 :: nat_lit 86 :: nat_lit 87 :: nat_lit 88 :: nat_lit 89 :: nat_lit 90 :: nat_lit 91 :: nat_lit 101 :: nat_lit 103 :: nat_lit 104 :: nat_lit 106 :: nat_lit 107 :: nat_lit 108 :: nat_lit 109 :: nat_lit 110 :: nat_lit 111 :: nat_lit 112 :: nat_lit 122 :: nat_lit 124 :: nat_lit 125 :: nat_lit 127 :: nat_lit 128 :: nat_lit 129 :: nat_lit 130 :: nat_lit 131 :: nat_lit 132 :: nat_lit 133 :: nat_lit 143 :: nat_lit 145 :: nat_lit 146 :: nat_lit 148 :: nat_lit 149 :: nat_lit 150 :: nat_lit 151 :: nat_lit 152 :: nat_lit 153 :: nat_lit 154 :: nat_lit 157 :: nat_lit 159 :: nat_lit 160 :: nat_lit 162 :: nat_lit 163 :: nat_lit 164 :: nat_lit 167 :: nat_lit 168 :: nat_lit 169 :: nat_lit 172 :: nat_lit 173 :: nat_lit 174 :: nat_lit 176 :: nat_lit 177 :: nat_lit 179 :: nat_lit 180 :: nat_lit 181 :: nat_lit 183 :: nat_lit 184 :: nat_lit 186 :: nat_lit 187 :: nat_lit 188 :: nat_lit 191 :: nat_lit 192 :: nat_lit 193 :: nat_lit 196 :: nat_lit 197 :: nat_lit 198 :: nat_lit 200 :: nat_lit 201 :: nat_lit 203 :: nat_lit 204 :: nat_lit 205 :: nat_lit 207 :: nat_lit 208 :: nat_lit 210 :: nat_lit 211 :: nat_lit 212 :: nat_lit 220 :: nat_lit 222 :: nat_lit 223 :: nat_lit 225 :: nat_lit 226 :: nat_lit 227 :: nat_lit 228 :: nat_lit 229 :: nat_lit 230 :: nat_lit 231 :: nat_lit 241 :: nat_lit 243 :: nat_lit 244 :: nat_lit 246 :: nat_lit 247 :: nat_lit 248 :: nat_lit 249 :: nat_lit 250 :: nat_lit 251 :: nat_lit 252 :: nat_lit 255 :: nat_lit 257 :: nat_lit 258 :: nat_lit 260 :: nat_lit 261 :: nat_lit 262 :: nat_lit 264 :: nat_lit 265 :: nat_lit 267 :: nat_lit 268 :: nat_lit 269 :: nat_lit 271 :: nat_lit 272 :: nat_lit 274 :: nat_lit 275 :: nat_lit 276 :: nat_lit 278 :: nat_lit 279 :: nat_lit 281 :: nat_lit 282 :: nat_lit 283 :: nat_lit 285 :: nat_lit 286 :: nat_lit 288 :: nat_lit 289 :: nat_lit 290 :: nat_lit 292 :: nat_lit 293 :: nat_lit 295 :: nat_lit 296 :: nat_lit 297 :: nat_lit 299 :: nat_lit 300 :: nat_lit 302 :: nat_lit 303 :: nat_lit 304 :: nat_lit 306 :: nat_lit 307 :: nat_lit 309 :: nat_lit 310 :: nat_lit 311 :: nat_lit 313 :: nat_lit 314 :: nat_lit 316 :: nat_lit 317 :: nat_lit 318 :: nat_lit 320 :: nat_lit 321 :: nat_lit 323 :: nat_lit 324 :: nat_lit 325 :: nat_lit 327 :: nat_lit 328 :: nat_lit 330 :: nat_lit 331 :: nat_lit 332 :: nat_lit 334 :: nat_lit 335 :: nat_lit 337 :: nat_lit 338 :: nat_lit 339 :: nat_lit 341 :: nat_lit 342 :: nat_lit 344 :: nat_lit 345 :: nat_lit 346 :: nat_lit 348 :: nat_lit 349 :: nat_lit 351 :: nat_lit 352 :: nat_lit 353 :: nat_lit 355 :: nat_lit 356 :: nat_lit 358 :: nat_lit 359 :: nat_lit 360 :: nat_lit 362 :: nat_lit 363 :: nat_lit 365 :: nat_lit 366 :: nat_lit 367 :: nat_lit 369 :: nat_lit 370 :: nat_lit 372 :: nat_lit 373 :: nat_lit 374 :: nat_lit 376 :: nat_lit 377 :: nat_lit 379 :: nat_lit 380 :: nat_lit 381 :: nat_lit 383 :: nat_lit 384 :: nat_lit 386 :: nat_lit 387 :: nat_lit 388 :: nat_lit 390 :: nat_lit 391 :: nat_lit 393 :: nat_lit 394 :: nat_lit 395 :: nat_lit 397 :: nat_lit 398 :: nat_lit 400 :: nat_lit 401 :: nat_lit 402 :: nat_lit 404 :: nat_lit 405 :: nat_lit 407 :: nat_lit 408 :: nat_lit 409 :: nat_lit 411 :: nat_lit 412 :: nat_lit 414 :: nat_lit 415 :: nat_lit 416 :: nat_lit 418 :: nat_lit 419 :: nat_lit 421 :: nat_lit 422 :: nat_lit 423 :: nat_lit 425 :: nat_lit 426 :: nat_lit 428 :: nat_lit 429 :: nat_lit 430 :: nat_lit 432 :: nat_lit 433 :: nat_lit 435 :: nat_lit 436 :: nat_lit 437 :: nat_lit 439 :: nat_lit 440 :: nat_lit 442 :: nat_lit 443 :: nat_lit 444 :: nat_lit 446 :: nat_lit 447 :: nat_lit 449 :: nat_lit 450 :: nat_lit 451 :: nat_lit 453 :: nat_lit 454 :: nat_lit 456 :: nat_lit 457 :: nat_lit 458 :: nat_lit 460 :: nat_lit 461 :: nat_lit 463 :: nat_lit 464 :: nat_lit 465 :: nat_lit 467 :: nat_lit 468 :: nat_lit 470 :: nat_lit 471 :: nat_lit 472 :: nat_lit 474 :: nat_lit 475 :: nat_lit 477 :: nat_lit 478 :: nat_lit 479 :: nat_lit 481 :: nat_lit 482 :: nat_lit 484 :: nat_lit 485 :: nat_lit 486 :: nat_lit 488 :: nat_lit 489 :: nat_lit 491 :: nat_lit 492 :: nat_lit 493 :: nat_lit 495 :: nat_lit 496 :: nat_lit 498 :: nat_lit 499 :: nat_lit 500 :: nat_lit 502 :: nat_lit 503 :: nat_lit 505 :: nat_lit 506 :: nat_lit 507 :: nat_lit 509 :: nat_lit 510 :: nat_lit 512 :: nat_lit 513 :: nat_lit 514 :: nat_lit 516 :: nat_lit 517 :: nat_lit 519 :: nat_lit 520 :: nat_lit 521 :: nat_lit 524 :: nat_lit 525 :: nat_lit 526 :: nat_lit 528 :: nat_lit 529 :: nat_lit 531 :: nat_lit 532 :: nat_lit 533 :: nat_lit 535 :: nat_lit 536 :: nat_lit 538 :: nat_lit 539 :: nat_lit 540 :: nat_lit 542 :: nat_lit 543 :: nat_lit 545 :: nat_lit 546 :: nat_lit 547 :: nat_lit 549 :: nat_lit 550 :: nat_lit 552 :: nat_lit 553 :: nat_lit 554 :: nat_lit 556 :: nat_lit 557 :: nat_lit 559 :: nat_lit 560 :: nat_lit 561 :: nat_lit 563 :: nat_lit 564 :: nat_lit 566 :: nat_lit 567 :: nat_lit 568 :: nat_lit 570 :: nat_lit 571 :: nat_lit 573 :: nat_lit 574 :: nat_lit 575 :: nat_lit 577 :: nat_lit 578 :: nat_lit 580 :: nat_lit 581 :: nat_lit 582 :: nat_lit 584 :: nat_lit 585 :: nat_lit 587 :: nat_lit 588 :: nat_lit 589 :: nat_lit 591 :: nat_lit 592 :: nat_lit 594 :: nat_lit 595 :: nat_lit 596 :: nat_lit 598 :: nat_lit 599 :: nat_lit 601 :: nat_lit 602 :: nat_lit 603 :: nat_lit 605 :: nat_lit 606 :: nat_lit 608 :: nat_lit 609 :: nat_lit 610 :: nat_lit 612 :: nat_lit 613 :: nat_lit 615 :: nat_lit 616 :: nat_lit 617 :: nat_lit 619 :: nat_lit 620 :: nat_lit 622 :: nat_lit 623 :: nat_lit 624 :: nat_lit 627 :: nat_lit 628 :: nat_lit 629 :: nat_lit 632 :: nat_lit 633 :: nat_lit 634 :: nat_lit 636 :: nat_lit 637 :: nat_lit 639 :: nat_lit 640 :: nat_lit 641 :: nat_lit 643 :: nat_lit 644 :: nat_lit 646 :: nat_lit 647 :: nat_lit 648 :: nat_lit 651 :: nat_lit 652 :: nat_lit 653 :: nat_lit 655 :: nat_lit 656 :: nat_lit 658 :: nat_lit 659 :: nat_lit 660 :: nat_lit 662 :: nat_lit 663 :: nat_lit 665 :: nat_lit 666 :: nat_lit 667 :: nat_lit 670 :: nat_lit 671 :: nat_lit 672 :: nat_lit 674 :: nat_lit 675 :: nat_lit 677 :: nat_lit 678 :: nat_lit 679 :: nat_lit 681 :: nat_lit 682 :: nat_lit 684 :: nat_lit 685 :: nat_lit 686 :: nat_lit 688 :: nat_lit 689 :: nat_lit 691 :: nat_lit 692 :: nat_lit 693 :: nat_lit 696 :: nat_lit 697 :: []
/-- the names of modules that the text sets are left out of the view -/
noncomputable def kept (st : Stmt) : Bool := match st with
  | .Assign [.Name x _] _ _ => x != ("__name__" : Str)
  | _ => true
noncomputable def view_39 : Program := { hp with main := { hp.main with body := hp.main.body.filter kept } }
noncomputable def heapE (P : Params) : Heap := ⟨⟨objs.map fun o => o P⟩, {}⟩
noncomputable def heapA (P : Params) : Heap := ⟨⟨[boot_o_0 P, boot_o_1 P, boot_o_2 P, boot_o_3 P, boot_o_4 P, boot_o_5 P, boot_o_6 P, boot_o_7 P, boot_o_8 P, boot_o_9 P, boot_o_10 P, o43 P, o44 P, o45 P, o46 P]⟩, {}⟩
noncomputable def ev : Env := { scope := hp.main.scope, locals := mainNs, globals := mainNs, cells := [], code := .ref 13, frame := some 14 }
noncomputable abbrev bd : List Stmt := behindTheImports hp
noncomputable abbrev cd : Code := .body bd ev
noncomputable abbrev p0 : Pos := ⟨0, 0, 0, 0⟩
noncomputable abbrev p1 : Pos := ⟨59, 0, 60, 33⟩
noncomputable abbrev p2 : Pos := ⟨185, 0, 192, 16⟩
noncomputable abbrev p3 : Pos := ⟨298, 0, 303, 28⟩
noncomputable abbrev p4 : Pos := ⟨437, 0, 469, 97⟩
noncomputable def sts (a k : Nat) : List Stmt := (bd.drop a).take k
noncomputable abbrev ST (t : Params → BT) (n k : Nat) (w : World) (os : OsState) : SharedT := ⟨t w.params, n, {}, ⟨[]⟩, {}, k, os⟩
noncomputable abbrev SA (w : World) (os : OsState) : Shared := ⟨heapA w.params, ⟨[]⟩, {}, 187, os⟩
noncomputable abbrev SF (w : World) (os : OsState) : Shared := ⟨heapE w.params, ⟨[]⟩, {}, 1133, os⟩
noncomputable abbrev an : Option Value := some (.ref 6)
theorem q1 (w : World) : (fun os => segRunT treeTable hp w 11 an 1 2000 (ST t47 15 187 w os) (piecesOf (sts 0 16) ev cd p0 [topFrame p0])) = fun os => some (.next, ST t238 188 435 w os, cd, p1) := by
  rw [Fast.te10110043849684766642, Fast.te14364793385576792824]
  kernel_rfl
theorem q2 (w : World) : (fun os => segRunT treeTable hp w 11 an 1 1300 (ST t238 188 435 w os) (piecesOf (sts 16 28) ev cd p1 [topFrame p0])) = fun os => some (.next, ST t423 367 711 w os, cd, p2) := by
  rw [Fast.te10110043849684766642, Fast.te14364793385576792824]
  kernel_rfl
theorem q3 (w : World) : (fun os => segRunT treeTable hp w 11 an 1 900 (ST t423 367 711 w os) (piecesOf (sts 44 27) ev cd p2 [topFrame p0])) = fun os => some (.next, ST t600 540 928 w os, cd, p3) := by
  rw [Fast.te10110043849684766642, Fast.te14364793385576792824]
  kernel_rfl
theorem q4 (w : World) : (fun os => segRunT treeTable hp w 11 an 1 800 (ST t600 540 928 w os) (piecesOf (sts 71 25) ev cd p3 [topFrame p0])) = fun os => some (.next, ST t762 698 1133 w os, cd, p4) := by
  rw [Fast.te10110043849684766642, Fast.te14364793385576792824]
  kernel_rfl
theorem qa (w : World) : (fun os => topGo treeTable hp w 11 an 12 ⟨boot_heap w.params, ⟨[]⟩, boot_drawn, boot_toks, os⟩ (topStub hp)) = fun os => some (SA w os, ⟨denote treeTable cd, cd, p0, [topFrame p0]⟩) := by
  rw [Fast.te15667345088766844465, Fast.te11892475500146522536, Fast.te14364793385576792824]
  kernel_rfl
theorem qb (w : World) : (fun os => segRun treeTable hp w 11 an 1 1 (SA w os) (blockOf bd ev cd p0 [topFrame p0])) = fun os => some (.next, (ST t47 15 187 w os).abs, cd, p0) := by
  rw [Fast.te14374325043358763698, Fast.te14364793385576792824]
  kernel_rfl
theorem qe (w : World) : (fun os => topRun treeTable hp w 11 an 2 (ST t762 698 1133 w os).abs ⟨doneF .next, cd, p4, [topFrame p0]⟩) = fun os => some (SF w os) := by
  kernel_rfl
theorem bd_is : bd = sts 0 16 ++ (sts 16 28 ++ (sts 44 27 ++ (sts 71 25 ++ []))) := by kernel_rfl
theorem run (w : World) (os : OsState) : topRun treeTable hp w 11 an (12 + (1 + (2000 + (1300 + (900 + (800 + 2)))))) ⟨boot_heap w.params, ⟨[]⟩, boot_drawn, boot_toks, os⟩ (topStub hp) = some (SF w os) := by
  refine go_top (congrFun (qa w) os) (piece_block (congrFun (qb w) os) ?_)
  have e : restOf bd ev cd p0 [topFrame p0] = restOf (sts 0 16 ++ (sts 16 28 ++ (sts 44 27 ++ (sts 71 25 ++ [])))) ev cd p0 [topFrame p0] := congrArg (fun l => restOf l ev cd p0 [topFrame p0]) bd_is
  rw [e]
  exact piece_app (segRun_of (congrFun (q1 w) os)) (piece_app (segRun_of (congrFun (q2 w) os)) (piece_app (segRun_of (congrFun (q3 w) os)) (piece_app (segRun_of (congrFun (q4 w) os)) (piece_nil (congrFun (qe w) os)))))
theorem open_is : ∀ w : World, (fencedOpening treeTable hp w 9014).map (fun s => (s.heap, s.gens, s.drawn, s.toks)) = some (boot_heap w.params, ⟨[]⟩, boot_drawn, boot_toks) :=
  boot_open (by kernel_rfl) (by decide) (fun _ => by kernel_rfl)
theorem size_is (w : World) : ((boot_heap w.params).isNs mainGlobals && (Array.mk ([] : List GenState)).size == 0, (boot_heap w.params).objs.size, (boot_heap w.params).nsMap mainGlobals "__annotations__") = (true, 11, an) := by kernel_rfl
theorem look1 (w : World) : (fun os => staticsOk (importedModules hp.main.body) (boot_heap w.params) (heapE w.params) && namesBound hp (heapE w.params) && gensDone (SF w os) && laidKept (boot_heap w.params) (heapE w.params)) = fun _ => true := by
  rw [Fast.te5923862056798008813]
  kernel_rfl
theorem look2 (w : World) : (fun os => seen ((recsOf view_39).map (·.name)) (ownsOf view_39) [] { SF w os with gens := #[] }) = fun _ => expectedOf view_39 := by
  rw [Fast.te5160383126252970620, Fast.te3399658132070893891, Fast.te5991557255702980513]
  kernel_rfl
theorem look3 (w : World) : (fun os => (SF w os).heap.bltView) = fun _ => bltViewBooted := by kernel_rfl
theorem look4 (w : World) : (fun os => (SF w os).heap.keysOk (looseW view_39 []) ((recsOf view_39).map (·.name)) ((litsOf view_39).map (·.1)) ((clssOf view_39 (looseW view_39 [])).map (·.name)) && (SF w os).heap.accountedOkI (importedModules hp.main.body) && (SF w os).heap.isNs mainGlobals && (SF w os).heap.isNs builtinsNs && tablesOk view_39 (SF w os).heap && (fun s => xlAt view_39 [] s && recOk (RowW.records PySem.Challenge.rw_xw0007_01.row.toRowW) s) (SF w os) && (if true = true then (SF w os).gens.size == 0 else !leftWithCleanup (SF w os).gens)) = fun _ => true := by
  rw [Fast.te10880121769531294198, Fast.te821141287760084731, Fast.te3399658132070893891, Fast.te7409074990110511671, Fast.te13664370479719496447, Fast.te14722251495701143533, Fast.te5923862056798008813, Fast.te10994771534591457954]
  kernel_rfl
theorem look5 (w : World) : (fun os => tabsOk view_39 (SF w os)) = fun _ => true := by
  rw [Fast.te479339242167458305]
  kernel_rfl
theorem look6 (w : World) : (fun os => pinSeenD view_39 (drecsOf view_39) (SF w os)) = fun _ => pinGoodD (drecsOf view_39) := by
  rw [Fast.te16090120013241838585, Fast.te3247288618530077131]
  kernel_rfl
theorem look7 (w : World) : (fun os => plainSeenE view_39 (looseW view_39 []) (SF w os)) = fun _ => plainGoodE view_39 (looseW view_39 []) := by
  rw [Fast.te2386780881361962483, Fast.te821141287760084731]
  kernel_rfl
theorem look8 (w : World) : (fun os => plainSeenD view_39 [] (SF w os)) = fun _ => plainGoodD view_39 [] := by
  rw [Fast.te11698064438423848299]
  kernel_rfl
theorem look9 (w : World) : (fun os => wideSeen view_39 (SF w os)) = fun _ => wideGood view_39 := by
  rw [Fast.te7317090234206586261]
  kernel_rfl
theorem look10 (w : World) : (fun os => clsSeenW view_39 [] (SF w os)) = fun _ => clsGoodW view_39 [] := by
  rw [Fast.te7369524293546568484]
  kernel_rfl
theorem keys_are (P : Params) : addrs = (heap_39 P).map (·.1) := by kernel_rfl
theorem look11 (w : World) : (fun os => addrs.map (SF w os).heap.get?) = fun _ => (heap_39 w.params).map fun p => some p.2 := by kernel_rfl
theorem left_ok : LeftO hp view_39 [] (fun s => xlAt view_39 [] s && recOk (RowW.records PySem.Challenge.rw_xw0007_01.row.toRowW) s) (Hook.obs (kHook heap_39 addrs keys_are)) (Hook.val (kHook heap_39 addrs keys_are)) 9014 true :=
  LeftO.of_pieces open_is size_is run (by decide) fun w => funext fun os =>
    looks_pair (congrFun (look1 w) os) (looks_pair (looks_pair (congrFun (look2 w) os) (looks_pair (congrFun (look3 w) os) (looks_pair (congrFun (look4 w) os) (looks_pair (congrFun (look5 w) os) (looks_pair (congrFun (look6 w) os)
      (looks_pair (congrFun (look7 w) os) (looks_pair (congrFun (look8 w) os) (looks_pair (congrFun (look9 w) os) (congrFun (look10 w) os))))))))) (congrFun (look11 w) os))
theorem said_row : PySem.W.OpenRow.wellSaid PySem.Challenge.rw_xw0007_01.row = true := by
  rw [Fast.te17960256430627541270]
  kernel_rfl
theorem said : PySem.W.OpenLaw.wellSaid PySem.Challenge.rw_xw0007_01 = true := by
  have e : Fast.tw17960256430627541270 (Fast.tw2368527892694137696 PySem.Challenge.rw_xw0007_01) = true := by
    rw [← Fast.te17960256430627541270, ← Fast.te2368527892694137696]
    exact said_row
  rw [Fast.te9446332074065402090]
  unfold Fast.tw9446332074065402090
  rw [e]
  kernel_rfl
end hd
local macro_rules | `(tactic| walk_at $s:str) => `(tactic| k_extra $s)
theorem fill_all (w : World) (h : Heap) (X : (hd.heap_39 w.params).In h) : PySem.Challenge.rw_xw0007_01.prog = PySem.Challenge.rw_xw0007_01.prog ∧ (hd.heap_39 w.params).In h := by
  w_on
  k_fill
  exact ⟨rfl, X⟩


abbrev Ar (dp un : Nat) (fr : Option (List Env)) (gd : Option (List Code)) : Around := { handled := none, depth := dp, frames := fr, guards := gd, units := un }

theorem stays_refl (h : Heap) : h.StaysIn h := fun _ _ e => e
theorem stays_trans {a b c : Heap} (x : a.StaysIn b) (y : b.StaysIn c) : a.StaysIn c := fun _ _ e => y _ _ (x _ _ e)

/-- a def of the text entered: any base below, any ledger of things that the base hides -/
theorem enterG {w : World} {dp un : Nat} {fr : Option (List Env)} {gd : Option (List Code)} {E : Value → Shared → Prop} {s : Shared} {Q : Value → Shared → Prop} {f : Addr} {args : List Value}
    {name qual : Str} {params : Arguments} {body : List Stmt} {scope : Scope} {dV kV doc pm cdv ct oc : Value} {an od : Option Addr} {osl : Array (Option Value)} {h₀ : Heap} {news : List (Addr × Obj)}
    (binds : List (Str × Value)) (hb : h₀.StaysIn s.heap) (hsz : h₀.objs.size ≤ s.heap.objs.size) (hN : ∀ p ∈ news, s.heap.get? p.1 = some p.2 ∧ h₀.get? p.1 = none)
    (X : (hd.heap_39 w.params).In h₀) (hlim : h₀.NoLimit) (hroom : dp < recursionLimit)
    (ho : (hd.heap_39 w.params).lookup f = some ⟨oc, od, .func (fnX name qual params body scope [] dV kV doc pm an cdv ct), osl⟩) (hcd : codeIn (hd.heap_39 w.params) cdv qual = true)
    (hbind : BindsTo s (fnX name qual params body scope [] dV kV doc pm an cdv ct) ⟨args, []⟩ binds) (hloc : ∀ y ∈ binds, scope.names.lookup y.1 = some .local)
    (hcell : ∀ x ∈ scope.names, x.2 ≠ .cell) (hco : scope.isCoroutine = false) (hgen : scope.isGenerator = false) (hk : scope.kind = .function)
    (h : ∀ L h₁, L = s.heap.objs.size → s.heap.StaysIn h₁ → Fr h₀ L h₁ (fun y => binds.reverse.lookup y) → News h₀ L h₁ news →
      wpAny (model PySem.Challenge.rw_xw0007_01.prog w) ((Ar dp un fr gd).deeper (envX qual scope L f cdv [])) (execs body (envX qual scope L f cdv []))
        (fun fl s' => Q (match fl with | .ret v => v | _ => .none) s') (fun _ _ => False) { s with heap := h₁, toks := s.toks + binds.length }) :
    wpAny (model PySem.Challenge.rw_xw0007_01.prog w) (Ar dp un fr gd) (call (.ref f) args) Q E s := by
  refine wpAny_call ?_
  refine codeAny_call_def (fd := fnX name qual params body scope [] dV kV doc pm an cdv ct) (body := body) (binds := binds) hroom (X.keeps hb _ _ ho) rfl (hlim.keeps hb) (codeRec_of (X.keeps hb) hcd) rfl hbind hcell hloc (fun h₁ hns hk₁ => ?_) hco hgen hk
  exact wpAny_mono (h _ h₁ rfl hk₁ ⟨hns, stays_trans hb hk₁, hsz⟩ (fun p hp => ⟨hk₁ _ _ (hN p hp).1, Nat.ne_of_lt (Heap.lt_size (hN p hp).1), (hN p hp).2⟩)) (fun fl s' hl => hl) fun _ _ y => y.elim

/-- the common case: the base is the heap itself, the ledger is empty -/
theorem enter {w : World} {dp un : Nat} {fr : Option (List Env)} {gd : Option (List Code)} {E : Value → Shared → Prop} {s : Shared} {Q : Value → Shared → Prop} {f : Addr} {args : List Value}
    {name qual : Str} {params : Arguments} {body : List Stmt} {scope : Scope} {dV kV doc pm cdv ct oc : Value} {an od : Option Addr} {osl : Array (Option Value)}
    (binds : List (Str × Value)) (X : (hd.heap_39 w.params).In s.heap) (hlim : s.heap.NoLimit) (hroom : dp < recursionLimit)
    (ho : (hd.heap_39 w.params).lookup f = some ⟨oc, od, .func (fnX name qual params body scope [] dV kV doc pm an cdv ct), osl⟩) (hcd : codeIn (hd.heap_39 w.params) cdv qual = true)
    (hbind : BindsTo s (fnX name qual params body scope [] dV kV doc pm an cdv ct) ⟨args, []⟩ binds) (hloc : ∀ y ∈ binds, scope.names.lookup y.1 = some .local)
    (hcell : ∀ x ∈ scope.names, x.2 ≠ .cell) (hco : scope.isCoroutine = false) (hgen : scope.isGenerator = false) (hk : scope.kind = .function)
    (h : ∀ L h₁, L = s.heap.objs.size → Fr s.heap L h₁ (fun y => binds.reverse.lookup y) → News s.heap L h₁ [] →
      wpAny (model PySem.Challenge.rw_xw0007_01.prog w) ((Ar dp un fr gd).deeper (envX qual scope L f cdv [])) (execs body (envX qual scope L f cdv []))
        (fun fl s' => Q (match fl with | .ret v => v | _ => .none) s') (fun _ _ => False) { s with heap := h₁, toks := s.toks + binds.length }) :
    wpAny (model PySem.Challenge.rw_xw0007_01.prog w) (Ar dp un fr gd) (call (.ref f) args) Q E s :=
  enterG binds (stays_refl _) (Nat.le_refl _) (fun _ hp => absurd hp (List.not_mem_nil)) X hlim hroom ho hcd hbind hloc hcell hco hgen hk fun L h₁ e _ F N => h L h₁ e F N

/-- the same for a def with cells -/
theorem enterGC {w : World} {dp un : Nat} {fr : Option (List Env)} {gd : Option (List Code)} {E : Value → Shared → Prop} {s : Shared} {Q : Value → Shared → Prop} {f : Addr} {args : List Value}
    {name qual : Str} {params : Arguments} {body : List Stmt} {scope : Scope} {dV kV doc pm cdv ct oc : Value} {an od : Option Addr} {osl : Array (Option Value)} {h₀ : Heap} {news : List (Addr × Obj)}
    (binds : List (Str × Value)) (hb : h₀.StaysIn s.heap) (hsz : h₀.objs.size ≤ s.heap.objs.size) (hN : ∀ p ∈ news, s.heap.get? p.1 = some p.2 ∧ h₀.get? p.1 = none)
    (X : (hd.heap_39 w.params).In h₀) (hlim : h₀.NoLimit) (hroom : dp < recursionLimit)
    (ho : (hd.heap_39 w.params).lookup f = some ⟨oc, od, .func (fnX name qual params body scope [] dV kV doc pm an cdv ct), osl⟩) (hcd : codeIn (hd.heap_39 w.params) cdv qual = true)
    (hbind : BindsTo s (fnX name qual params body scope [] dV kV doc pm an cdv ct) ⟨args, []⟩ binds) (hkind : (binds.all fun y => scope.names.lookup y.1 == some .local || scope.names.lookup y.1 == some .cell) = true)
    (hnd : ((cellsFrom 0 scope.names []).map (·.1)).Nodup) (hco : scope.isCoroutine = false) (hgen : scope.isGenerator = false) (hk : scope.kind = .function)
    (h : ∀ L h₁ tk cells, L = s.heap.objs.size → s.heap.StaysIn h₁ → Fr h₀ L h₁ (bindL (envOfC qual scope L f cdv).kindOf binds fun _ => none) → News h₀ L h₁ (cells ++ news) →
      CellsAre (bindC (envOfC qual scope L f cdv).kindOf binds fun _ => none) (cellsFrom (L + 1) scope.names []) cells →
      wpAny (model PySem.Challenge.rw_xw0007_01.prog w) ((Ar dp un fr gd).deeper (envOfC qual scope L f cdv)) (execs body (envOfC qual scope L f cdv))
        (fun fl s' => Q (match fl with | .ret v => v | _ => .none) s') (fun _ _ => False) { s with heap := h₁, toks := tk }) :
    wpAny (model PySem.Challenge.rw_xw0007_01.prog w) (Ar dp un fr gd) (call (.ref f) args) Q E s := by
  refine wpAny_call ?_
  refine codeAny_call_function (fd := fnX name qual params body scope [] dV kV doc pm an cdv ct) hroom (X.keeps hb _ _ ho) rfl hco hgen rfl (codeRec_of (X.keeps hb) hcd) (hbind _ _ _ _ ?_)
  refine wpAny_newFunctionEnv_cells hk (kindsX hkind _) fun env' he s' x => ?_
  subst he
  refine ⟨(hlim.keeps hb).keeps x.toInCall.keep, codeAny_func ?_⟩
  obtain ⟨h₁, tk, rfl, _⟩ := x.done
  have hk₁ := x.toInCall.keep
  obtain ⟨cells, NC, Y⟩ := Cl.news (h₀ := s.heap) (Nat.le_refl _) fun n c hm => ⟨x.cell n c (lookup_of_mem_nodup (cellsFrom_names scope.names 0 (s.heap.objs.size + 1) [] [] rfl ▸ hnd) hm), x.above n c hm⟩
  refine wpAny_mono (h s.heap.objs.size h₁ tk cells rfl hk₁ ⟨x.toInCall.ns, stays_trans hb hk₁, hsz⟩ (fun p hp => ?_) Y) (fun fl s' hl => hl) fun _ _ y => y.elim
  rcases List.mem_append.mp hp with hp | hp
  · refine ⟨(NC p hp).1, (NC p hp).2.1, ?_⟩
    cases q : h₀.get? p.1 with
    | none => rfl
    | some o => have := hb _ _ q; rw [(NC p hp).2.2] at this; cases this
  · exact ⟨hk₁ _ _ (hN p hp).1, Nat.ne_of_lt (Heap.lt_size (hN p hp).1), (hN p hp).2⟩
theorem enterC {w : World} {dp un : Nat} {fr : Option (List Env)} {gd : Option (List Code)} {E : Value → Shared → Prop} {s : Shared} {Q : Value → Shared → Prop} {f : Addr} {args : List Value}
    {name qual : Str} {params : Arguments} {body : List Stmt} {scope : Scope} {dV kV doc pm cdv ct oc : Value} {an od : Option Addr} {osl : Array (Option Value)}
    (binds : List (Str × Value)) (X : (hd.heap_39 w.params).In s.heap) (hlim : s.heap.NoLimit) (hroom : dp < recursionLimit)
    (ho : (hd.heap_39 w.params).lookup f = some ⟨oc, od, .func (fnX name qual params body scope [] dV kV doc pm an cdv ct), osl⟩) (hcd : codeIn (hd.heap_39 w.params) cdv qual = true)
    (hbind : BindsTo s (fnX name qual params body scope [] dV kV doc pm an cdv ct) ⟨args, []⟩ binds) (hkind : (binds.all fun y => scope.names.lookup y.1 == some .local || scope.names.lookup y.1 == some .cell) = true)
    (hnd : ((cellsFrom 0 scope.names []).map (·.1)).Nodup) (hco : scope.isCoroutine = false) (hgen : scope.isGenerator = false) (hk : scope.kind = .function)
    (h : ∀ L h₁ tk cells, L = s.heap.objs.size → Fr s.heap L h₁ (bindL (envOfC qual scope L f cdv).kindOf binds fun _ => none) → News s.heap L h₁ (cells ++ []) →
      CellsAre (bindC (envOfC qual scope L f cdv).kindOf binds fun _ => none) (cellsFrom (L + 1) scope.names []) cells →
      wpAny (model PySem.Challenge.rw_xw0007_01.prog w) ((Ar dp un fr gd).deeper (envOfC qual scope L f cdv)) (execs body (envOfC qual scope L f cdv))
        (fun fl s' => Q (match fl with | .ret v => v | _ => .none) s') (fun _ _ => False) { s with heap := h₁, toks := tk }) :
    wpAny (model PySem.Challenge.rw_xw0007_01.prog w) (Ar dp un fr gd) (call (.ref f) args) Q E s :=
  enterGC binds (stays_refl _) (Nat.le_refl _) (fun _ hp => absurd hp (List.not_mem_nil)) X hlim hroom ho hcd hbind hkind hnd hco hgen hk fun L h₁ tk cells e _ F N Y => h L h₁ tk cells e F N Y
/-- instances and tuples: what no list's or dict's change touches -/
def Soft (o : Obj) : Prop := o.data = .plain ∨ (o.cls = .type "tuple" ∧ ∃ xs n, o.data = .seq xs n)
theorem soft_inst {C dx : Addr} : Soft (instObj C dx) := .inl rfl
theorem soft_tup {xs : Array Value} {n : Nat} : Soft { cls := .type "tuple", data := .seq xs n } := .inr ⟨rfl, _, _, rfl⟩
theorem not_soft_ns {h : Heap} {a : Addr} {m : Str → Option Value} {o : Obj} (x : h.Ns a m) (e : h.get? a = some o) : ¬ Soft o := by
  obtain ⟨o', es, ep, ho, hd, _⟩ := x
  rw [ho] at e; cases e
  rintro (q | ⟨_, xs, n, q⟩) <;> rw [hd] at q <;> cases q
theorem not_soft_list {h : Heap} {a : Addr} {xs : Array Value} {o : Obj} (x : h.PlainList a xs) (e : h.get? a = some o) : ¬ Soft o := by
  obtain ⟨n, ho⟩ := x
  rw [ho] at e; cases e
  rintro (q | ⟨q, _⟩) <;> simp at q
theorem not_soft_fields {o : Obj} {vs : Array Value} (hd : o.data = .fields vs) : ¬ Soft o := by
  rintro (q | ⟨_, xs, n, q⟩) <;> rw [hd] at q <;> cases q
theorem soft_at {h : Heap} {b : Addr} {o : Obj} (x : ∃ o, h.get? b = some o ∧ ¬ Soft o) (e : h.get? b = some o) : ¬ Soft o := by
  obtain ⟨o', q, r⟩ := x
  rw [q] at e; cases e; exact r
def Hold (P : Prop) : Prop := P
theorem hold {P : Prop} (h : Hold P) : P := h
theorem unhold {P : Prop} (h : P) : Hold P := h

section
variable {prog : Program} {w : World} {A : Around} {R : Result → Shared → Prop} {E : Value → Shared → Prop} {s : Shared} {env : Env}

/-- one turn of a list comprehension without tests, any target -/
theorem comp_turns {target elt iter : Expr} {scope : Scope} {pos : Pos} {it acc : Value} {env : Env} {R : Result → Shared → Prop} (I : Nat → Shared → Prop)
    (turn : ∀ n s, I n s → wpAny (model prog w) A (pyNext it) (fun r s₁ => match r with
      | none => R (.ok .next) s₁
      | some v => wpAny (model prog w) A (letOwnedTupleGo target it v) (fun _ s₁' => wpAny (model prog w) A (assign target env v) (fun _ s₂ =>
          wpAny (model prog w) A (eval elt env) (fun x s₄ =>
              wpAny (model prog w) A (call (.builtin "list.append") [acc, x]) (fun _ s₅ => ∃ m, m < n ∧ I m s₅) (fun _ _ => False) s₄) (fun _ _ => False) s₂)
          (fun _ _ => False) s₁') (fun _ _ => False) s₁) (fun _ _ => False) s)
    (n : Nat) (h : I n s) : codeAny (model prog w) A (.compLoop (.ListComp elt [⟨target, iter, [], 0⟩] scope pos) 0 it acc env) R s := by
  refine codeAny_loop rfl I (fun n s hI => ?_) n h
  show wpAny _ A ((compTurn (.ListComp elt [⟨target, iter, [], 0⟩] scope pos) 0 it acc env).onRaise (fun x => do noteFrame x env; theTreesLotGoes x)) _ _ s
  refine wpAny_noted ?_
  rw [compTurn_list]
  refine wpAny_bind (wpAny_standAt (wpAny_bind (wpAny_mono (turn n s hI) (fun r s₁ h₁ => ?_) fun _ _ h' => h'.elim)))
  cases r with
  | none => exact wpAny_pure h₁
  | some v =>
    refine wpAny_bind (wpAny_mono h₁ (fun _ s₁' h₁' => ?_) fun _ _ h' => h'.elim)
    refine wpAny_bind (wpAny_mono h₁' (fun _ s₂ h₂ => wpAny_bind (wpAny_mono (wpAny_tests_nil (Q := fun ok s₃ => ok = true ∧ s₃ = s₂) ⟨rfl, rfl⟩) (fun ok s₃ h₃ => ?_) fun _ _ h' => h')) fun _ _ h' => h'.elim)
    obtain ⟨rfl, rfl⟩ := h₃
    exact wpAny_bind (wpAny_bind (wpAny_mono h₂ (fun x s₄ h₄ => wpAny_bind (wpAny_mono h₄ (fun _ s₅ h₅ => wpAny_pure (wpAny_pure ⟨rfl, h₅⟩)) fun _ _ h' => h'.elim)) fun _ _ h' => h'.elim))

/-- what a turn of a comprehension hands back; C: the block's names -/
inductive CTurn (mu : List Addr) (C : Addr) (h₃ : Heap) (g₃ : Array GenState) (d₃ : Drawn) (os₃ : OsState) (J : Heap → Prop) (s₄ : Shared) : Prop
  | mk (h' : Heap) (tk : Nat) (e : s₄ = ⟨h', g₃, d₃, tk, os₃⟩) (k : ∀ b o, b ∉ mu → b ≠ C → h₃.get? b = some o → h'.get? b = some o) (n : ∃ m', h'.Ns C m') (j : J h') : CTurn mu C h₃ g₃ d₃ os₃ J s₄
/-- a list comprehension with one clause and no test, by an invariant over what it has made.
N: the heap's size at the iterator; the list is made at N, the block's names at N + 1. -/
structure CompI (prog : Program) (w : World) (A : Around) (target elt : Expr) (scope : Scope) (cl : List (Str × Addr)) (env : Env) (h₀ : Heap) (I N : Addr) (fp wr : List Addr) (n : Nat) (P : Nat → Value → Prop) (St : Nat → Heap → Prop) (mu : List Addr) (Inv : Nat → List Value → Heap → Prop) (Tgt : Nat → Value → (Str → Option Value) → Prop) : Prop where
  size : h₀.objs.size = N
  walks : Walks prog w A I fp wr n P St
  line : n ≤ sizeLine
  st : St 0 h₀
  fps : ∀ b ∈ fp, b < N
  mus : ∀ b ∈ mu, b ∉ fp ∧ b < N
  inv : Inv 0 [] h₀
  soft : ∀ i h, St i h → ∀ b ∈ wr, ∃ o, h.get? b = some o ∧ ¬ Soft o
  frame : ∀ i ys h h', Inv i ys h → (∀ b o, h.get? b = some o → (Soft o ∨ (b ∉ wr ∧ b ≠ N ∧ b ≠ N + 1)) → h'.get? b = some o) → Inv i ys h'
  set : ∀ i v (s₃ : Shared) m₃ (Q' : Unit → Shared → Prop), P i v → s₃.heap.Ns (N + 1) m₃ → St (i + 1) s₃.heap → (∀ b o, b ∉ wr → b ∉ mu → h₀.get? b = some o → s₃.heap.get? b = some o) →
    (∀ h' m' tk, h'.Ns (N + 1) m' → Tgt i v m' → (∀ b o, b ≠ N + 1 → s₃.heap.get? b = some o → h'.get? b = some o) → Q' () { s₃ with heap := h', toks := tk }) →
    wpAny (model prog w) A (letOwnedTupleGo target (.ref I) v) (fun _ s₄ => wpAny (model prog w) A (assign target (compEnvC scope cl (N + 1) env) v) Q' (fun _ _ => False) s₄) (fun _ _ => False) s₃
  turn : ∀ i v ys (s₃ : Shared) m₃, i < n → P i v → Inv i ys s₃.heap → s₃.heap.Ns (N + 1) m₃ → Tgt i v m₃ → N + 2 ≤ s₃.heap.objs.size → ((∀ b ∈ wr, ∃ o, s₃.heap.get? b = some o) ∧ ∃ o, s₃.heap.get? N = some o) → (∀ b o, b ∉ wr → b ∉ mu → h₀.get? b = some o → s₃.heap.get? b = some o) →
    wpAny (model prog w) A (eval elt (compEnvC scope cl (N + 1) env)) (fun y s₄ => CTurn mu (N + 1) s₃.heap s₃.gens s₃.drawn s₃.os (Inv (i + 1) (ys ++ [y])) s₄) (fun _ _ => False) s₃
theorem comp_core {target elt iter : Expr} {scope : Scope} {cl : List (Str × Addr)} {pos : Pos} {use : Option (Value → Sem Unit)} {Q : Value → Shared → Prop} {I N : Addr} {fp wr mu : List Addr} {n : Nat} {P : Nat → Value → Prop} {St : Nat → Heap → Prop} {Inv : Nat → List Value → Heap → Prop} {Tgt : Nat → Value → (Str → Option Value) → Prop} {s₂ : Shared}
    (C : CompI prog w A target elt scope cl env s₂.heap I N fp wr n P St mu Inv Tgt) (hcell : ∀ y ∈ scope.names, y.2 ≠ .cell) (hkind : scope.kind = .function)
    (fin : ∀ h' tk ys m', h'.PlainList N ys → ys.size = n → Inv n ys.toList h' → (∀ b o, b ∉ wr → b ∉ mu → s₂.heap.get? b = some o → h'.get? b = some o) → h'.Ns (N + 1) m' → compPost (model prog w) A E use Q (.ref N) (N + 1) (.ok .next) { s₂ with heap := h', toks := tk }) :
    wpAny (model prog w) A (newList []) (fun acc s₃ => wpAny (model prog w) A (newFunctionEnv scope env.globals cl [] env.qual none .none (some env)) (fun cenv s₄ =>
      codeAny (model prog w) A (.compStart (.ListComp elt [⟨target, iter, [], 0⟩] scope pos) 0 (.ref I) acc { cenv with scope := relabel scope env }) (compPost (model prog w) A E use Q acc cenv.locals) s₄) E s₃) E s₂ := by
  obtain ⟨rfl, W, hsz, hst, hfp, hmu, hinv0, hsoft, hframe, hassign, helt⟩ := C
  refine wpAny_newObj_type (wpAny_newFunctionEnv hcell (by intro y hy; simp at hy) (fun h₁ hns₁ hsb₁ => ?_) hkind)
  dsimp only at hns₁ hsb₁ ⊢
  generalize hH2 : s₂.heap.push { cls := .type "list", dict := none, data := .seq ([] : List Value).toArray } = H2 at hns₁ hsb₁ ⊢
  have hC : H2.objs.size = s₂.heap.objs.size + 1 := by rw [← hH2, Heap.size_push]
  rw [hC] at hns₁ hsb₁ ⊢
  generalize hNN : s₂.heap.objs.size = N at *
  have old : ∀ b o, s₂.heap.get? b = some o → h₁.get? b = some o := fun b o e => by
    have hb := ltN (Heap.lt_size e)
    rw [hNN] at hb
    exact hsb₁.extBut b o (neN (by omega)) (Heap.get?_push_of_some _ (hH2 ▸ Heap.get?_push_of_some _ e))
  have hacc : h₁.PlainList N #[] := ⟨_, hsb₁.extBut _ _ (neN (by omega)) (Heap.get?_push_of_some _ (hH2 ▸ hNN ▸ Heap.get?_push_size _ rfl))⟩
  have hst₁ : St 0 h₁ := W.frame _ _ _ hst fun b _ o e => old b o e
  have hNf : N ∉ fp := fun hm => Nat.lt_irrefl _ (hfp _ hm)
  have hCf : N + 1 ∉ fp := fun hm => by have := ltN (hfp _ hm); omega
  have hNw : N ∉ wr := fun hm => hNf (W.sub _ hm)
  have hCw : N + 1 ∉ wr := fun hm => hCf (W.sub _ hm)
  have hNm : N ∉ mu := fun hm => by have := ltN (hmu _ hm).2; omega
  have hCm : N + 1 ∉ mu := fun hm => by have := ltN (hmu _ hm).2; omega
  have hinv₁ : Inv 0 [] h₁ := hframe _ _ _ _ hinv0 fun b o e _ => old b o e
  have key : codeAny (model prog w) A (.compLoop (.ListComp elt [⟨target, iter, [], 0⟩] scope pos) 0 (.ref I) (.ref N) (compEnvC scope cl (N + 1) env))
      (compPost (model prog w) A E use Q (.ref N) (N + 1)) { s₂ with heap := h₁, toks := s₂.toks + ([] : List (Str × Value)).length } := by
    refine comp_turns
      (fun k s' => ∃ h' tk m' ys, ∃ i, s' = { s₂ with heap := h', toks := tk } ∧ St i h' ∧ h'.PlainList N ys ∧ h'.Ns (N + 1) m' ∧ ys.size = i ∧ i ≤ n ∧ k = n + 1 - i ∧ Inv i ys.toList h' ∧
        (∀ b o, b ∉ wr → b ∉ mu → s₂.heap.get? b = some o → h'.get? b = some o)) ?_ (n + 1)
      ⟨h₁, _, _, #[], 0, rfl, hst₁, hacc, hns₁, rfl, Nat.zero_le _, rfl, hinv₁, fun b o _ _ e => old b o e⟩
    rintro k s' ⟨H, tk, m', ys, i, rfl, hst', hacc', hn', hys, hi, rfl, hinv', hk⟩
    by_cases hlt : i < n
    · refine W.item i _ _ _ hlt hst' fun v h₂ tk₂ hPv hst₂ hk₂ => ?_
      have hn₂ : h₂.Ns (N + 1) m' := hn'.at' fun o e => hk₂ _ o hCw e
      have hinv₂ : Inv i ys.toList h₂ := hframe _ _ _ _ hinv' fun b o e hb => hk₂ b o (fun hm => hb.elim (soft_at (hsoft _ _ hst' b hm) e) fun q => q.1 hm) e
      refine hassign i v { s₂ with heap := h₂, toks := tk₂ } m' _ hPv hn₂ hst₂ (fun b o hb hbm e => hk₂ b o hb (hk b o hb hbm e)) fun h₃ m₃ tk₃ hn₃ ht₃ hs₃ => ?_
      have hinv₃ : Inv i ys.toList h₃ := hframe _ _ _ _ hinv₂ fun b o e hb => hs₃ b o (fun z => hb.elim (not_soft_ns hn₂ (z ▸ e)) fun q => q.2.2 z) e
      have hst₃ : St (i + 1) h₃ := W.frame _ _ _ hst₂ fun b hb o e => hs₃ b o (fun z => hCf (z ▸ hb)) e
      have hacc₃ : h₃.PlainList N ys := (hacc'.at fun o e => hk₂ _ o hNw e).at fun o e => hs₃ _ o (neN (by omega)) e
      have hk₃ : ∀ b o, b ∉ wr → b ∉ mu → s₂.heap.get? b = some o → h₃.get? b = some o := fun b o hb hbm e => hs₃ b o (neN (by have := ltN (Heap.lt_size e); omega)) (hk₂ b o hb (hk b o hb hbm e))
      have hsz₃ : N + 2 ≤ h₃.objs.size := hn₃.lt
      refine wpAny_mono (helt i v ys.toList { s₂ with heap := h₃, toks := tk₃ } m₃ hlt hPv hinv₃ hn₃ ht₃ hsz₃ ⟨fun b hb => let ⟨o, e, _⟩ := hsoft _ _ hst₃ b hb; ⟨o, e⟩, let ⟨_, e⟩ := hacc₃; ⟨_, e⟩⟩ hk₃) (fun y s₄ h₄ => ?_) fun _ _ e => e.elim
      obtain ⟨h₄, tk₄, rfl, hk₄, ⟨m₄, hn₄⟩, hinv₄⟩ := h₄
      refine wpAny_list_append_plain (hsz := by omega) (hacc₃.at fun o e => hk₄ _ o hNm (neN (by omega)) e) fun h₅ hl₅ hs₅ => ?_
      refine ⟨n + 1 - (i + 1), by omega, h₅, tk₄, m₄, ys.push y, i + 1, rfl, ?_, hl₅, hn₄.sameBut hs₅ (neN (by omega)), by simp [hys], hlt, rfl, ?_, fun b o hb hbm e => hs₅.extBut b o (neN (by have := ltN (Heap.lt_size e); omega)) (hk₄ b o hbm (neN (by have := ltN (Heap.lt_size e); omega)) (hk₃ b o hb hbm e))⟩
      · exact W.frame _ _ _ hst₃ fun b hb o e => hs₅.extBut b o (fun z => hNf (z ▸ hb)) (hk₄ b o (fun z => (hmu _ z).1 hb) (fun z => hCf (z ▸ hb)) e)
      · rw [Array.toList_push]
        exact hframe _ _ _ _ hinv₄ fun b o e hb => hs₅.extBut b o (fun z => hb.elim (not_soft_list (hacc₃.at fun o e => hk₄ _ o hNm (neN (by omega)) e) (z ▸ e)) fun q => q.2.1 z) e
    · have hin : i = n := by omega
      subst hin
      refine W.done _ _ _ hst' fun h₂ tk₂ hk₂ => ?_
      exact fin h₂ tk₂ ys m' (hacc'.at fun o e => hk₂ _ o hNw e) hys (hframe _ _ _ _ hinv' fun b o e hb => hk₂ b o (fun hm => hb.elim (soft_at (hsoft _ _ hst' b hm) e) fun q => q.1 hm) e) (fun b o hb hbm e => hk₂ b o hb (hk b o hb hbm e)) (hn'.at' fun o e => hk₂ _ o hCw e)
  exact codeAny_compStart_list key (W.self 0 _ _ _ hst₁ key)

/-- what the iterator of a comprehension hands on; Fin: what follows -/
inductive CompGo (prog : Program) (w : World) (A : Around) (target elt : Expr) (scope : Scope) (cl : List (Str × Addr)) (env : Env) (Fin : Addr → List Addr → List Addr → Nat → (Nat → List Value → Heap → Prop) → Shared → Prop) (it : Value) (s₂ : Shared) : Prop
  | mk {I N : Addr} {fp wr mu : List Addr} {n : Nat} {P : Nat → Value → Prop} {St : Nat → Heap → Prop} {Inv : Nat → List Value → Heap → Prop} {Tgt : Nat → Value → (Str → Option Value) → Prop} (e : it = .ref I)
    (C : CompI prog w A target elt scope cl env s₂.heap I N fp wr n P St mu Inv Tgt) (fin : Fin N wr mu n Inv s₂) : CompGo prog w A target elt scope cl env Fin it s₂
def FinV (Q : Value → Shared → Prop) (N : Addr) (wr mu : List Addr) (n : Nat) (Inv : Nat → List Value → Heap → Prop) (s₂ : Shared) : Prop :=
  ∀ h' tk ys, h'.PlainList N ys → ys.size = n → Inv n ys.toList h' → (∀ b o, b ∉ wr → b ∉ mu → s₂.heap.get? b = some o → h'.get? b = some o) → Q (.ref N) { s₂ with heap := h', toks := tk }
theorem comp_inv {target elt iter : Expr} {scope : Scope} {cl : List (Str × Addr)} {pos : Pos} {Q : Value → Shared → Prop}
    (hclos : closureFor scope env = pure cl) (hcell : ∀ y ∈ scope.names, y.2 ≠ .cell) (hkind : scope.kind = .function)
    (hnames : ∀ y ∈ scope.names, y.2 = .local → scope.names.lookup y.1 = some .local)
    (h : wpAny (model prog w) A (eval iter env) (fun xv s₁ => wpAny (model prog w) A (pyIter xv) (CompGo prog w A target elt scope cl env (FinV Q)) E s₁) E s)
    (hs : ∀ x, foldedSetIterable iter env x = pure x := by intro _; rfl) :
    wpAny (model prog w) A (eval (.ListComp elt [⟨target, iter, [], 0⟩] scope pos) env) Q E s := by
  rw [eval_ListComp]
  refine wpAny_comprehension_free (use := none) rfl hs hclos hkind hnames (wpAny_mono h (fun xv s₁ h₁ => wpAny_mono h₁ (fun it s₂ h₂ => ?_) fun _ _ e => e) fun _ _ e => e)
  obtain ⟨rfl, C, fin⟩ := h₂
  rename_i I N fp wr mu n P St Inv Tgt
  refine comp_core C hcell hkind fun h' tk ys m' hp hy hi hk hn => ⟨m', hn, fun h'' hs'' => ?_⟩
  have hNN := C.size
  exact fin h'' tk ys (hp.at fun o e => hs''.extBut _ o (neN (by omega)) e) hy (C.frame _ _ _ _ hi fun b o e hb => hs''.extBut b o (fun z => hb.elim (not_soft_ns hn (z ▸ e)) fun q => q.2.2 z) e) fun b o hb hbm e => hs''.extBut b o (neN (by have := ltN (Heap.lt_size e); omega)) (hk b o hb hbm e)

/-- a turn of a for loop went through -/
inductive FGo (s₂ : Shared) (St J : Heap → Prop) (s₆ : Shared) : Prop
  | mk (h' : Heap) (tk : Nat) (e : s₆ = { s₂ with heap := h', toks := tk }) (a : St h') (b : J h') : FGo s₂ St J s₆
/-- a for loop by an invariant of the heap; E: what a raise in it leads to -/
inductive ForI (prog : Program) (w : World) (A : Around) (target : Expr) (body : List Stmt) (env : Env) (Q : Flow → Shared → Prop) (E : Value → Shared → Prop) (it : Value) (s₂ : Shared) : Prop
  | mk {I : Addr} {fp wr : List Addr} {n : Nat} {P : Nat → Value → Prop} {St : Nat → Heap → Prop} (J : Nat → Heap → Prop) (e : it = .ref I) (W : Walks prog w A I fp wr n P St) (st : St 0 s₂.heap) (inv : J 0 s₂.heap)
    (soft : ∀ i h, St i h → ∀ b ∈ wr, ∃ o, h.get? b = some o ∧ ¬ Soft o) (frame : ∀ i h h', J i h → (∀ b o, h.get? b = some o → (Soft o ∨ b ∉ wr) → h'.get? b = some o) → J i h')
    (turn : ∀ i v h₃ tk₃, i < n → P i v → St (i + 1) h₃ → J i h₃ →
      wpAny (model prog w) A (letOwnedTupleGo target (.ref I) v) (fun _ s₄ => wpAny (model prog w) A (assign target env v) (fun _ s₅ => wpAny (model prog w) A (execs body env) (fun f s₆ => match f with
        | .next | .cont => FGo s₂ (St (i + 1)) (J (i + 1)) s₆
        | .brk => Q .next s₆
        | .ret v => Q (.ret v) s₆) (notedBy (model prog w) A env (cameBackBy (model prog w) A env E)) s₅) (notedBy (model prog w) A env (cameBackBy (model prog w) A env E)) s₄) (notedBy (model prog w) A env (cameBackBy (model prog w) A env E)) { s₂ with heap := h₃, toks := tk₃ })
    (done : ∀ h' tk, J n h' → Q .next { s₂ with heap := h', toks := tk }) : ForI prog w A target body env Q E it s₂
/-- where the loop stands ahead of a turn -/
inductive FAt (s₂ : Shared) (n : Nat) (St J : Nat → Heap → Prop) (k : Nat) (s' : Shared) : Prop
  | mk (h' : Heap) (tk i : Nat) (e : s' = { s₂ with heap := h', toks := tk }) (a : St i h') (hi : i ≤ n) (ek : k = n + 1 - i) (b : J i h') : FAt s₂ n St J k s'
theorem for_inv {target iter : Expr} {body : List Stmt} {pos : Pos} {Q : Flow → Shared → Prop}
    (h : wpAny (model prog w) A (eval iter env) (fun xv s₁ => wpAny (model prog w) A (pyIter xv) (ForI prog w A target body env Q E) E s₁) E s)
    (hs : ∀ x, foldedSetIterable iter env x = pure x := by intro _; rfl) :
    wpAny (model prog w) A (exec (.For target iter body [] pos) env) Q E s := by
  refine wpAny_For (wpAny_mono h (fun xv s₁ h₁ => wpAny_mono h₁ (fun it s₂ h₂ => ?_) fun _ _ e => e) fun _ _ e => e) hs
  obtain ⟨J, rfl, W, hst, hJ, hsoft, hframe, hturn, hdone⟩ := h₂
  rename_i I fp wr n P St
  refine codeAny_forLoop_any (FAt s₂ n St J) ?_ (n + 1) ⟨s₂.heap, s₂.toks, 0, rfl, hst, Nat.zero_le _, rfl, hJ⟩
  rintro k s' ⟨H, tk, i, rfl, hst', hi, rfl, hJ'⟩
  by_cases hlt : i < n
  · refine W.item i _ _ _ hlt hst' fun v h₂ tk₂ hPv hst₂ hk₂ => ?_
    refine wpAny_mono (hturn i v h₂ tk₂ hlt hPv hst₂ (hframe _ _ _ hJ' fun b o e hb => hk₂ b o (fun hm => hb.elim (soft_at (hsoft _ _ hst' b hm) e) fun q => q hm) e)) (fun _ s₄ h₄ => wpAny_mono h₄ (fun _ s₅ h₅ => wpAny_mono h₅ (fun f s₆ h₆ => ?_) fun _ _ e => e) fun _ _ e => e) fun _ _ e => e
    have go : FGo s₂ (St (i + 1)) (J (i + 1)) s₆ → ∃ m, m < n + 1 - i ∧ FAt s₂ n St J m s₆ := fun ⟨h', tk', e, a, b⟩ => ⟨n + 1 - (i + 1), by omega, h', tk', i + 1, e, a, hlt, rfl, b⟩
    cases f with
    | next => exact go h₆
    | cont => exact go h₆
    | brk => exact h₆
    | ret v => exact h₆
  · have hin : i = n := by omega
    subst hin
    exact W.done _ _ _ hst' fun h₂ tk₂ hk₂ => wpAny_execs_nil (hdone h₂ tk₂ (hframe _ _ _ hJ' fun b o e hb => hk₂ b o (fun hm => hb.elim (soft_at (hsoft _ _ hst' b hm) e) fun q => q hm) e))
end


section
variable {prog : Program} {w : World} {A : Around} {E : Value → Shared → Prop} {s : Shared} {env : Env}

/-- from the iterator at K: the list that is made at K + 1, the block's names at K + 2 -/
theorem CompI.ofK {target elt : Expr} {scope : Scope} {cl : List (Str × Addr)} {oit : Obj} {hh : Heap} {fp mu : List Addr} {n : Nat} {P : Nat → Value → Prop} {St : Nat → Heap → Prop} {Inv : Nat → List Value → Heap → Prop} {Tgt : Nat → Value → (Str → Option Value) → Prop} {K : Addr} (hK : hh.objs.size = K)
    (W : Walks prog w A K fp [K] n P St) (line : n ≤ sizeLine) (st : St 0 (hh.push oit)) (fps : ∀ b ∈ fp, b ≤ K) (mus : ∀ b ∈ mu, b ∉ fp ∧ b < K) (inv : Inv 0 [] hh) (soft : ∀ i h, St i h → ∃ o, h.get? K = some o ∧ ¬ Soft o)
    (frame : ∀ i ys h h', Inv i ys h → (∀ b o, h.get? b = some o → (Soft o ∨ (b ≠ K ∧ b ≠ K + 1 ∧ b ≠ K + 2)) → h'.get? b = some o) → Inv i ys h')
    (set : ∀ i v (s₃ : Shared) m₃ (Q' : Unit → Shared → Prop), P i v → s₃.heap.Ns (K + 2) m₃ → St (i + 1) s₃.heap → (∀ b o, b ∉ mu → hh.get? b = some o → s₃.heap.get? b = some o) →
      (∀ h' m' tk, h'.Ns (K + 2) m' → Tgt i v m' → (∀ b o, b ≠ K + 2 → s₃.heap.get? b = some o → h'.get? b = some o) → Q' () { s₃ with heap := h', toks := tk }) →
      wpAny (model prog w) A (letOwnedTupleGo target (.ref K) v) (fun _ s₄ => wpAny (model prog w) A (assign target (compEnvC scope cl (K + 2) env) v) Q' (fun _ _ => False) s₄) (fun _ _ => False) s₃)
    (turn : ∀ i v ys (s₃ : Shared) m₃, i < n → P i v → Inv i ys s₃.heap → s₃.heap.Ns (K + 2) m₃ → Tgt i v m₃ → K + 3 ≤ s₃.heap.objs.size → (∀ b, b = K ∨ b = K + 1 ∨ b = K + 2 → ∃ o, s₃.heap.get? b = some o) → (∀ b o, b ∉ mu → hh.get? b = some o → s₃.heap.get? b = some o) →
      wpAny (model prog w) A (eval elt (compEnvC scope cl (K + 2) env)) (fun y s₄ => CTurn mu (K + 2) s₃.heap s₃.gens s₃.drawn s₃.os (Inv (i + 1) (ys ++ [y])) s₄) (fun _ _ => False) s₃) :
    CompI prog w A target elt scope cl env (hh.push oit) K (K + 1) fp [K] n P St mu Inv Tgt := by
  have old : ∀ b o, hh.get? b = some o → (hh.push oit).get? b = some o := fun b o e => Heap.get?_push_of_some _ e
  have hlt : ∀ b o, hh.get? b = some o → b ≠ K := fun b o e => Nat.ne_of_lt (hK ▸ Heap.lt_size e)
  refine ⟨by rw [Heap.size_push, hK], W, line, st, fun b hb => Nat.lt_succ_of_le (fps b hb), fun b hb => ⟨(mus b hb).1, Nat.lt_succ_of_lt (mus b hb).2⟩, frame _ _ _ _ inv fun b o e _ => old b o e, fun i h q b hb => ?_, fun i ys h h' hi hk => ?_, fun i v s₃ m₃ Q' a b c d => ?_, fun i v ys s₃ m₃ a b c d e f g k => ?_⟩
  · rw [List.mem_singleton.mp hb]; exact soft i h q
  · exact frame i ys h h' hi fun b o e hb => hk b o e (hb.imp id fun ⟨h1, h2, h3⟩ => ⟨fun hm => h1 (List.mem_singleton.mp hm), h2, h3⟩)
  · exact set i v s₃ m₃ Q' a b c fun b o hb e => d b o (fun hm => hlt b o e (List.mem_singleton.mp hm)) hb (old b o e)
  · refine turn i v ys s₃ m₃ a b c d e f ?_ fun b o hb q => k b o (fun hm => hlt b o q (List.mem_singleton.mp hm)) hb (old b o q)
    rintro b (rfl | rfl | rfl)
    · exact g.1 _ (List.mem_singleton.mpr rfl)
    · exact g.2
    · obtain ⟨o, _, _, ho, _⟩ := d
      exact ⟨o, ho⟩
/-- the end, seen from the heap ahead of the iterator -/
theorem FinV.ofK {Q : Value → Shared → Prop} {oit : Obj} {s₁ : Shared} {mu : List Addr} {n : Nat} {Inv : Nat → List Value → Heap → Prop} {K : Addr} (hK : s₁.heap.objs.size = K)
    (hQ : ∀ h' tk ys, h'.PlainList (K + 1) ys → ys.size = n → Inv n ys.toList h' → (∀ b o, b ∉ mu → s₁.heap.get? b = some o → h'.get? b = some o) → Q (.ref (K + 1)) { s₁ with heap := h', toks := tk }) :
    FinV Q (K + 1) [K] mu n Inv { s₁ with heap := s₁.heap.push oit } := fun h' tk ys a b c d =>
  hQ h' tk ys a b c fun x o hx e => d x o (fun hm => Nat.ne_of_lt (hK ▸ Heap.lt_size e) (List.mem_singleton.mp hm)) hx (Heap.get?_push_of_some _ e)
/-- over a list, the target a name; K: the heap's size when the list is known; K: the iterator, K + 1: the list that is made, K + 2: the block's names -/
inductive CLInv (prog : Program) (w : World) (A : Around) (elt : Expr) (scope : Scope) (cl : List (Str × Addr)) (env : Env) (x : Str) (Q : Value → Shared → Prop) (s₁ : Shared) (l : Addr) (vs : Array Value) (hh : Heap) (K : Addr) : Prop
  | mk (mu : List Addr) (Inv : Nat → List Value → Heap → Prop) (h1 : ∀ b ∈ mu, b < K) (h2 : l ∉ mu) (h3 : Inv 0 [] hh)
    (h4 : ∀ i ys h h', Inv i ys h → (∀ b o, h.get? b = some o → (Soft o ∨ (b ≠ K ∧ b ≠ K + 1 ∧ b ≠ K + 2)) → h'.get? b = some o) → Inv i ys h')
    (h5 : ∀ i v ys h₃ g₃ d₃ t₃ os₃ m₃, vs[i]? = some v → Inv i ys h₃ → h₃.Ns (K + 2) m₃ → m₃ x = some v → K + 3 ≤ h₃.objs.size → (∀ b, b = K ∨ b = K + 1 ∨ b = K + 2 → ∃ o, h₃.get? b = some o) → (∀ b o, b ∉ mu → hh.get? b = some o → h₃.get? b = some o) →
      wpAny (model prog w) A (eval elt (compEnvC scope cl (K + 2) env)) (fun y s₄ => Hold (CTurn mu (K + 2) h₃ g₃ d₃ os₃ (Inv (i + 1) (ys ++ [y])) s₄)) (fun _ _ => False) ⟨h₃, g₃, d₃, t₃, os₃⟩)
    (h6 : ∀ h' tk ys, h'.PlainList (K + 1) ys → ys.size = vs.size → Inv vs.size ys.toList h' → (∀ b o, b ∉ mu → hh.get? b = some o → h'.get? b = some o) → Q (.ref (K + 1)) { s₁ with heap := h', toks := tk }) :
    CLInv prog w A elt scope cl env x Q s₁ l vs hh K
inductive CLArg (prog : Program) (w : World) (A : Around) (elt : Expr) (scope : Scope) (cl : List (Str × Addr)) (env : Env) (x : Str) (Q : Value → Shared → Prop) (xv : Value) (s₁ : Shared) : Prop
  | mk (l : Addr) (vs : Array Value) (e : xv = .ref l) (hl : s₁.heap.IsList l vs) (hsz : vs.size ≤ sizeLine) (k : ∀ hh K, s₁.heap = hh → K = hh.objs.size → CLInv prog w A elt scope cl env x Q s₁ l vs hh K) : CLArg prog w A elt scope cl env x Q xv s₁
theorem comp_list {elt iter : Expr} {x : Str} {px : Pos} {scope : Scope} {cl : List (Str × Addr)} {pos : Pos} {Q : Value → Shared → Prop}
    (hh : A.handled = none) (hclos : closureFor scope env = pure cl) (hcell : ∀ y ∈ scope.names, y.2 ≠ .cell) (hkind : scope.kind = .function)
    (hnames : ∀ y ∈ scope.names, y.2 = .local → scope.names.lookup y.1 = some .local) (hx : scope.names.lookup x = some .local)
    (h : wpAny (model prog w) A (eval iter env) (fun xv s₁ => Hold (CLArg prog w A elt scope cl env x Q xv s₁)) E s)
    (hs : ∀ x, foldedSetIterable iter env x = pure x := by intro _; rfl) :
    wpAny (model prog w) A (eval (.ListComp elt [⟨.Name x px, iter, [], 0⟩] scope pos) env) Q E s := by
  refine comp_inv hclos hcell hkind hnames (wpAny_mono h (fun xv s₁ h₁ => ?_) fun _ _ e => e) hs
  obtain ⟨l, vs, rfl, hl, hsz, h₁⟩ := h₁
  obtain ⟨mu, Inv, hmu, hlm, hinv, hframe, helt, hQ⟩ := h₁ _ _ rfl rfl
  refine wpAny_pyIter_list hl ?_
  have hllt : l < s₁.heap.objs.size := let ⟨_, ho, _⟩ := hl; Heap.lt_size ho
  refine ⟨rfl, CompI.ofK (mu := mu) (Inv := Inv) (Tgt := fun i v m => m x = some v) rfl (Walks.list hh _ l (Nat.ne_of_lt hllt) vs) hsz ⟨⟨_, Heap.get?_push_size _ rfl, rfl, rfl⟩, hl.at fun o e => Heap.get?_push_of_some _ e⟩ (fun b hb => ?_) (fun b hb => ⟨fun hm => ?_, hmu b hb⟩) hinv ?_ hframe ?_ ?_, FinV.ofK rfl hQ⟩
  · rcases List.mem_cons.mp hb with rfl | hb
    · exact Nat.le_refl _
    · rw [List.mem_singleton.mp hb]; exact Nat.le_of_lt hllt
  · rcases List.mem_cons.mp hm with rfl | hm
    · exact Nat.lt_irrefl _ (hmu _ hb)
    · rw [List.mem_singleton.mp hm] at hb; exact hlm hb
  · rintro i h ⟨⟨oi, hoi, _, hdi⟩, _⟩
    exact ⟨oi, hoi, not_soft_fields hdi⟩
  · intro i v s₃ m₃ Q' hP hns hst hk hq
    refine wpAny_of_eq rfl ?_
    refine wpAny_assign_Name (wpAny_storeName_local (lookup_relabel_local hx) hns (fun h₂ hn₂ hs₂ => ?_) (by simp [compEnvC, relabel, hkind]))
    exact hq h₂ _ _ hn₂ (by simp) fun b o hb e => hs₂.extBut b o hb e
  · exact fun i v ys s₃ m₃ _ hP hinv' hns ht hsz' hlv hk => helt i v ys s₃.heap s₃.gens s₃.drawn s₃.toks s₃.os m₃ hP hinv' hns ht hsz' hlv hk
end

section
variable {prog : Program} {w : World} {A : Around} {E : Value → Shared → Prop} {s : Shared} {env : Env}

/-- a turn went through; K: the iterator, its object oI; Ex: what else must have stayed -/
inductive FNext (s₁ : Shared) (K : Addr) (oI : Obj) (Ex J : Heap → Prop) (s₆ : Shared) : Prop
  | mk (h' : Heap) (tk : Nat) (e : s₆ = { s₁ with heap := h', toks := tk }) (a : h'.get? K = some oI) (x : Ex h') (j : J h') : FNext s₁ K oI Ex J s₆
/-- from the iterator at K, a name as the target; Ex: what a turn must leave as it is -/
theorem ForI.ofK {x : Str} {px : Pos} {body : List Stmt} {Q : Flow → Shared → Prop} {oit : Obj} {s₁ : Shared} {fp : List Addr} {n : Nat} {P : Nat → Value → Prop} {St : Nat → Heap → Prop} {J : Nat → Heap → Prop} {Ex : Heap → Heap → Prop} {K : Addr}
    (W : Walks prog w A K fp [K] n P St) (st : St 0 (s₁.heap.push oit)) (inv : J 0 s₁.heap) (soft : ∀ i h, St i h → ∃ o, h.get? K = some o ∧ ¬ Soft o)
    (frame : ∀ i h h', J i h → (∀ b o, h.get? b = some o → (Soft o ∨ b ≠ K) → h'.get? b = some o) → J i h')
    (again : ∀ i h h', St i h → (∀ o, h.get? K = some o → h'.get? K = some o) → Ex h h' → St i h') (own : ∀ v, letOwnedTupleGo (.Name x px) (.ref K) v = pure ())
    (turn : ∀ i v h₃ tk₃ oI, i < n → P i v → h₃.get? K = some oI → ¬ Soft oI → J i h₃ →
      wpAny (model prog w) A (storeName env x v) (fun _ s₅ => wpAny (model prog w) A (execs body env) (fun f s₆ => match f with
        | .next | .cont => FNext s₁ K oI (Ex h₃) (J (i + 1)) s₆
        | .brk => Q .next s₆
        | .ret v => Q (.ret v) s₆) (notedBy (model prog w) A env (cameBackBy (model prog w) A env E)) s₅) (notedBy (model prog w) A env (cameBackBy (model prog w) A env E)) { s₁ with heap := h₃, toks := tk₃ })
    (done : ∀ h' tk, J n h' → Q .next { s₁ with heap := h', toks := tk }) : ForI prog w A (.Name x px) body env Q E (.ref K) { s₁ with heap := s₁.heap.push oit } := by
  refine ⟨J, rfl, W, st, frame _ _ _ inv fun b o e _ => Heap.get?_push_of_some _ e, fun i h q b hb => ?_, fun i h h' hj hk => frame i h h' hj fun b o e hb => hk b o e (hb.imp id fun q hm => q (List.mem_singleton.mp hm)), fun i v h₃ tk₃ hlt hP hst hj => ?_, done⟩
  · rw [List.mem_singleton.mp hb]; exact soft i h q
  · obtain ⟨oI, hoI, hsI⟩ := soft _ _ hst
    refine wpAny_of_eq (own v) ?_
    have go : ∀ s₆, FNext s₁ K oI (Ex h₃) (J (i + 1)) s₆ → FGo { s₁ with heap := s₁.heap.push oit } (St (i + 1)) (J (i + 1)) s₆ := fun s₆ ⟨h', tk, e, a, b, c⟩ => ⟨h', tk, e, again _ _ _ hst (fun o e => by rw [hoI] at e; cases e; exact a) b, c⟩
    refine wpAny_assign_Name (wpAny_mono (turn i v h₃ tk₃ oI hlt hP hoI hsI hj) (fun _ s₅ h₅ => wpAny_mono h₅ (fun f s₆ h₆ => ?_) fun _ _ e => e) fun _ _ e => e)
    cases f with
    | next => exact go _ h₆
    | cont => exact go _ h₆
    | brk => exact h₆
    | ret v => exact h₆
end

section
variable {prog : Program} {w : World} {A : Around} {E : Value → Shared → Prop} {s : Shared} {env : Env}
/-- over a dict's keys (strs); K: the iterator's address -/
inductive FDInv (prog : Program) (w : World) (A : Around) (x : Str) (body : List Stmt) (env : Env) (Q : Flow → Shared → Prop) (E : Value → Shared → Prop) (s₁ : Shared) (d : Addr) (kvs : List (Str × Value)) (hh : Heap) (K : Addr) : Prop
  | mk (J : Nat → Heap → Prop) (h1 : J 0 hh) (h2 : ∀ i h h', J i h → (∀ b o, h.get? b = some o → (Soft o ∨ b ≠ K) → h'.get? b = some o) → J i h')
    (h3 : ∀ i k v t h₃ tk₃ oI, kvs[i]? = some (k, v) → h₃.get? K = some oI → ¬ Soft oI → J i h₃ →
      wpAny (model prog w) A (storeName env x (.str k t)) (fun _ s₅ => wpAny (model prog w) A (execs body env) (fun f s₆ => Hold (match f with
        | .next | .cont => FNext s₁ K oI (fun h' => ∀ o, h₃.get? d = some o → h'.get? d = some o) (J (i + 1)) s₆
        | .brk => Q .next s₆
        | .ret v => Q (.ret v) s₆)) (notedBy (model prog w) A env (cameBackBy (model prog w) A env E)) s₅) (notedBy (model prog w) A env (cameBackBy (model prog w) A env E)) { s₁ with heap := h₃, toks := tk₃ })
    (h4 : ∀ h' tk, J kvs.length h' → Q .next { s₁ with heap := h', toks := tk }) : FDInv prog w A x body env Q E s₁ d kvs hh K
inductive FDArg (prog : Program) (w : World) (A : Around) (x : Str) (body : List Stmt) (env : Env) (Q : Flow → Shared → Prop) (E : Value → Shared → Prop) (xv : Value) (s₁ : Shared) : Prop
  | mk (d : Addr) (kvs : List (Str × Value)) (e : xv = .ref d) (hds : (d == sysModules) = false) (hd : s₁.heap.DictOf (PySem.strKind prog w) d kvs) (k : ∀ hh K, s₁.heap = hh → K = hh.objs.size → FDInv prog w A x body env Q E s₁ d kvs hh K) : FDArg prog w A x body env Q E xv s₁
theorem for_dict {iter : Expr} {x : Str} {px : Pos} {body : List Stmt} {pos : Pos} {Q : Flow → Shared → Prop} (hh : A.handled = none)
    (h : wpAny (model prog w) A (eval iter env) (fun xv s₁ => Hold (FDArg prog w A x body env Q E xv s₁)) E s)
    (hs : ∀ x, foldedSetIterable iter env x = pure x := by intro _; rfl) :
    wpAny (model prog w) A (exec (.For (.Name x px) iter body [] pos) env) Q E s := by
  refine for_inv (wpAny_mono h (fun xv s₁ h₁ => ?_) fun _ _ e => e) hs
  obtain ⟨d, kvs, rfl, hds, hd, h₁⟩ := h₁
  obtain ⟨J, hJ, hframe, hturn, hdone⟩ := h₁ _ _ rfl rfl
  obtain ⟨o, es, ep, ho, hr⟩ := hd
  have hda : s₁.heap.DictAt (PySem.strKind prog w) d kvs ep := ⟨o, es, ho, hr⟩
  refine wpAny_pyIter_dict hds hda ?_
  refine ForI.ofK (Ex := fun h h' => ∀ o, h.get? d = some o → h'.get? d = some o) (Walks.dictKeys hh _ d (Nat.ne_of_lt (Heap.lt_size ho)) kvs ep) ⟨⟨_, Heap.get?_push_size _ rfl, rfl, rfl⟩, hda.at' fun o e => Heap.get?_push_of_some _ e⟩ hJ ?_ hframe ?_ (fun _ => rfl) ?_ hdone
  · rintro i h ⟨⟨oi, hoi, _, hdi⟩, _⟩
    exact ⟨oi, hoi, not_soft_fields hdi⟩
  · exact fun i h h' st a b => ⟨st.1.at a, st.2.at' b⟩
  · rintro i v h₃ tk₃ oI _ ⟨k, x', hkv, hkey⟩ hoI hsI hj
    obtain ⟨t, rfl⟩ := Value.isStrOf_shape hkey
    exact hturn i k x' t h₃ tk₃ oI hkv hoI hsI hj
end

section
variable {prog : Program} {w : World} {A : Around} {E : Value → Shared → Prop} {s : Shared} {env : Env}

/-- over a list; K: the iterator's address -/
inductive FLInv (prog : Program) (w : World) (A : Around) (x : Str) (body : List Stmt) (env : Env) (Q : Flow → Shared → Prop) (E : Value → Shared → Prop) (s₁ : Shared) (l : Addr) (vs : Array Value) (hh : Heap) (K : Addr) : Prop
  | mk (J : Nat → Heap → Prop) (h1 : J 0 hh) (h2 : ∀ i h h', J i h → (∀ b o, h.get? b = some o → (Soft o ∨ b ≠ K) → h'.get? b = some o) → J i h')
    (h3 : ∀ i v h₃ tk₃ oI, vs[i]? = some v → h₃.get? K = some oI → ¬ Soft oI → J i h₃ →
      wpAny (model prog w) A (storeName env x v) (fun _ s₅ => wpAny (model prog w) A (execs body env) (fun f s₆ => Hold (match f with
        | .next | .cont => FNext s₁ K oI (fun h' => ∀ o, h₃.get? l = some o → h'.get? l = some o) (J (i + 1)) s₆
        | .brk => Q .next s₆
        | .ret v => Q (.ret v) s₆)) (notedBy (model prog w) A env (cameBackBy (model prog w) A env E)) s₅) (notedBy (model prog w) A env (cameBackBy (model prog w) A env E)) { s₁ with heap := h₃, toks := tk₃ })
    (h4 : ∀ h' tk, J vs.size h' → Q .next { s₁ with heap := h', toks := tk }) : FLInv prog w A x body env Q E s₁ l vs hh K
inductive FLArg (prog : Program) (w : World) (A : Around) (x : Str) (body : List Stmt) (env : Env) (Q : Flow → Shared → Prop) (E : Value → Shared → Prop) (xv : Value) (s₁ : Shared) : Prop
  | mk (l : Addr) (vs : Array Value) (e : xv = .ref l) (hl : s₁.heap.IsList l vs) (k : ∀ hh K, s₁.heap = hh → K = hh.objs.size → FLInv prog w A x body env Q E s₁ l vs hh K) : FLArg prog w A x body env Q E xv s₁
theorem for_list {iter : Expr} {x : Str} {px : Pos} {body : List Stmt} {pos : Pos} {Q : Flow → Shared → Prop} (hh : A.handled = none)
    (h : wpAny (model prog w) A (eval iter env) (fun xv s₁ => Hold (FLArg prog w A x body env Q E xv s₁)) E s)
    (hs : ∀ x, foldedSetIterable iter env x = pure x := by intro _; rfl) :
    wpAny (model prog w) A (exec (.For (.Name x px) iter body [] pos) env) Q E s := by
  refine for_inv (wpAny_mono h (fun xv s₁ h₁ => ?_) fun _ _ e => e) hs
  obtain ⟨l, vs, rfl, hl, h₁⟩ := h₁
  obtain ⟨J, hJ, hframe, hturn, hdone⟩ := h₁ _ _ rfl rfl
  have hlt : l < s₁.heap.objs.size := let ⟨_, ho, _⟩ := hl; Heap.lt_size ho
  refine wpAny_pyIter_list hl ?_
  refine ForI.ofK (Ex := fun h h' => ∀ o, h.get? l = some o → h'.get? l = some o) (Walks.list hh _ l (Nat.ne_of_lt hlt) vs) ⟨⟨_, Heap.get?_push_size _ rfl, rfl, rfl⟩, hl.at fun o e => Heap.get?_push_of_some _ e⟩ hJ ?_ hframe ?_ (fun _ => rfl) ?_ hdone
  · rintro i h ⟨⟨oi, hoi, _, hdi⟩, _⟩
    exact ⟨oi, hoi, not_soft_fields hdi⟩
  · exact fun i h h' st a b => ⟨st.1.at a, st.2.at b⟩
  · exact fun i v h₃ tk₃ oI _ hP hoI hsI hj => hturn i v h₃ tk₃ oI hP hoI hsI hj
end
theorem lines_Loops : True := by
  k_with "eval ListComp" => (refine hold ?_)
  k_with "exec For" => (refine hold ?_)
  k_with "exec For Name Attribute cons nil" => (refine hold ?_)
  k_with "exec For Name Name cons nil" => (refine hold ?_)
  k_with "exec For Name Call cons nil" => (refine hold ?_)
  k_with "exec For Tuple Name cons nil" => (refine hold ?_)
  trivial

/-- an attribute of an instance: a's dict is dx -/
def Has (h : Heap) (a dx C : Addr) (name : Str) (v : Value) : Prop :=
  ∃ ents n, h.get? a = some (instObj C dx) ∧ h.get? dx = some (W.dictOf ents n) ∧ getL name ents = some (some v)


theorem Has.keep {h h' : Heap} {a dx C : Addr} {name : Str} {v : Value} (x : Has h a dx C name v) (h1 : ∀ o, h.get? a = some o → Soft o → h'.get? a = some o) (h2 : ∀ o, h.get? dx = some o → h'.get? dx = some o) : Has h' a dx C name v := by
  obtain ⟨e, n, a1, a2, a3⟩ := x
  exact ⟨e, n, h1 _ a1 soft_inst, h2 _ a2, a3⟩
theorem Has.stays {h h' : Heap} {a dx C : Addr} {name : Str} {v : Value} (x : Has h a dx C name v) (k : h.StaysIn h') : Has h' a dx C name v :=
  x.keep (fun o e _ => k _ o e) (fun o e => k _ o e)
theorem Has.live {h : Heap} {a dx C : Addr} {name : Str} {v : Value} (x : Has h a dx C name v) : ∃ o, h.get? dx = some o := by
  obtain ⟨e, n, a1, a2, a3⟩ := x
  exact ⟨_, a2⟩

/-- the bounds: a list of pairs of ints -/
def PairL (h : Heap) : List Value → List (Int × Int) → Prop
  | [], [] => True
  | v :: vs, b :: bs => (∃ p t1 t2 n, v = .ref p ∧ h.get? p = some { cls := .type "tuple", data := .seq #[.int b.1 t1, .int b.2 t2] n }) ∧ PairL h vs bs
  | _, _ => False
theorem PairL.keep {h h' : Heap} (k : ∀ b o, h.get? b = some o → Soft o → h'.get? b = some o) : ∀ {vs : List Value} {bs : List (Int × Int)}, PairL h vs bs → PairL h' vs bs
  | [], [], _ => trivial
  | _ :: _, _ :: _, ⟨⟨p, t1, t2, n, e, x⟩, r⟩ => ⟨⟨p, t1, t2, n, e, k _ _ x soft_tup⟩, r.keep k⟩
theorem PairL.length {h : Heap} : ∀ {vs : List Value} {bs : List (Int × Int)}, PairL h vs bs → vs.length = bs.length
  | [], [], _ => rfl
  | _ :: _, _ :: _, ⟨_, r⟩ => by rw [List.length_cons, List.length_cons, r.length]
theorem PairL.get {h : Heap} : ∀ {vs : List Value} {bs : List (Int × Int)}, PairL h vs bs → ∀ {i : Nat} {v : Value}, vs[i]? = some v → ∃ b p t1 t2 n, bs[i]? = some b ∧ v = .ref p ∧ h.get? p = some { cls := .type "tuple", data := .seq #[.int b.1 t1, .int b.2 t2] n }
  | [], [], _, i, v, e => by simp at e
  | _ :: _, b :: _, ⟨⟨p, t1, t2, n, e, x⟩, r⟩, i, v, q => by
    cases i with
    | zero => simp at q; subst q; exact ⟨b, p, t1, t2, n, by simp, e, x⟩
    | succ i => simp at q; obtain ⟨b', y⟩ := r.get q; exact ⟨b', by simpa using y⟩
def PairsAt (h : Heap) (b : Addr) (bs : List (Int × Int)) : Prop := ∃ vs, h.PlainList b vs ∧ PairL h vs.toList bs

inductive D where
  | int (i : Int)
  | none
  | cell (k : Int)
  | arr (bs : List (Int × Int)) (items : List D)
  | recd (num : Int) (fs : List (Str × D))

def LiesL (P : List Addr → Value → D → Prop) : List Addr → List Value → List D → Prop
  | S, [], [] => S = []
  | S, v :: vs, d :: ds => ∃ S1 S2, S = S1 ++ S2 ∧ P S1 v d ∧ LiesL P S2 vs ds
  | _, _, _ => False

theorem LiesL.mono {P P' : List Addr → Value → D → Prop} : ∀ {S : List Addr} {vs : List Value} {ds : List D}, (∀ S1 v d, (∀ x ∈ S1, x ∈ S) → d ∈ ds → P S1 v d → P' S1 v d) → LiesL P S vs ds → LiesL P' S vs ds
  | S, [], [], _, x => x
  | S, v :: vs, d :: ds, hp, ⟨S1, S2, e, a, r⟩ => ⟨S1, S2, e, hp _ _ _ (fun x hx => e ▸ List.mem_append_left _ hx) (.head _) a, r.mono fun T v' d' hT hd => hp T v' d' (fun x hx => e ▸ List.mem_append_right _ (hT x hx)) (.tail _ hd)⟩
theorem LiesL.length {P : List Addr → Value → D → Prop} : ∀ {S : List Addr} {vs : List Value} {ds : List D}, LiesL P S vs ds → vs.length = ds.length
  | _, [], [], _ => rfl
  | _, _ :: _, _ :: _, ⟨_, _, _, _, r⟩ => by rw [List.length_cons, List.length_cons, r.length]
theorem LiesL.snoc {P : List Addr → Value → D → Prop} : ∀ {S : List Addr} {vs : List Value} {ds : List D} {S' : List Addr} {v : Value} {d : D}, LiesL P S vs ds → P S' v d → LiesL P (S ++ S') (vs ++ [v]) (ds ++ [d])
  | S, [], [], S', v, d, e, x => by
    have e : S = [] := e
    subst e
    exact ⟨S', [], by simp, x, rfl⟩
  | S, _ :: _, _ :: _, S', v, d, ⟨S1, S2, e, a, r⟩, x => ⟨S1, S2 ++ S', by rw [e, List.append_assoc], a, r.snoc x⟩

/-- an array's value; P: what its items bear -/
inductive LiesArr (h : Heap) (P : List Addr → Value → D → Prop) (S : List Addr) (v : Value) (bs : List (Int × Int)) (items : List D) : Prop
  | mk (a dx b l : Addr) (vs : Array Value) (S' : List Addr) (e1 : v = .ref a) (e2 : S = dx :: b :: l :: S') (g1 : Has h a dx 131 (Str.ofString "bounds") (.ref b)) (g2 : Has h a dx 131 (Str.ofString "items") (.ref l))
    (pa : PairsAt h b bs) (pl : h.PlainList l vs) (r : LiesL P S' vs.toList items) (sz : bs.length ≤ 100 ∧ items.length ≤ 100) : LiesArr h P S v bs items
/-- a record's value -/
inductive LiesRec (prog : Program) (w : World) (h : Heap) (Z : Addr → Prop) (P : List Addr → Value → D → Prop) (S : List Addr) (v : Value) (num : Int) (fs : List (Str × D)) : Prop
  | mk (a dx fd ty tdx : Addr) (tk : Tok) (kvs : List (Str × Value)) (S' : List Addr) (e1 : v = .ref a) (e2 : S = dx :: fd :: S') (g1 : Has h a dx 152 (Str.ofString "type") (.ref ty)) (g2 : Has h a dx 152 (Str.ofString "fields") (.ref fd))
    (g3 : Has h ty tdx 229 (Str.ofString "number") (.int num tk)) (z : Z tdx) (d : h.DictOf (PySem.strKind prog w) fd kvs) (ks : kvs.map (·.1) = fs.map (·.1)) (r : LiesL P S' (kvs.map (·.2)) (fs.map (·.2))) (sz : fs.length ≤ 20 ∧ (fd == sysModules) = false ∧ (fs.map (·.1)).all PyData.strOk = true) : LiesRec prog w h Z P S v num fs
/-- the value v bears the datum d; S: the addresses that it owns (dicts of instances, lists, dicts of fields); what it shares with others is in Z -/
def Lies (prog : Program) (w : World) (h : Heap) (Z : Addr → Prop) : Nat → List Addr → Value → D → Prop
  | _, S, v, .int i => S = [] ∧ ∃ tk, v = .int i tk
  | _, S, v, .none => S = [] ∧ v = .none
  | _, S, v, .cell k => S = [] ∧ ∃ a dx tk, v = .ref a ∧ Has h a dx 110 (Str.ofString "number") (.int k tk) ∧ Z dx
  | 0, _, _, _ => False
  | n + 1, S, v, .arr bs items => LiesArr h (Lies prog w h Z n) S v bs items
  | n + 1, S, v, .recd num fs => LiesRec prog w h Z (Lies prog w h Z n) S v num fs
/-- items that were made one after the other, at addresses that did not stand in h2 -/
inductive LiN (w : World) (Z : Addr → Prop) (n : Nat) (items : List D) (h2 : Heap) (K : Addr) (i : Nat) (ys : List Value) (h : Heap) : Prop
  | mk (S' : List Addr) (r : LiesL (Lies PySem.Challenge.rw_xw0007_01.prog w h Z n) S' ys (items.take i)) (nd : S'.Nodup) (hx : ∀ x ∈ S', h2.get? x = none ∧ x ≠ K ∧ x ≠ K + 1 ∧ x ≠ K + 2) : LiN w Z n items h2 K i ys h

section
variable {prog : Program} {w : World} {h h' : Heap} {Z Z' : Addr → Prop}
theorem dictOf_at {fd : Addr} {kvs : List (Str × Value)} (x : h.DictOf (PySem.strKind prog w) fd kvs) (k : ∀ o, h.get? fd = some o → h'.get? fd = some o) : h'.DictOf (PySem.strKind prog w) fd kvs :=
  let ⟨o, es, ep, ho, r⟩ := x; ⟨o, es, ep, k o ho, r⟩
theorem dictOf_live {fd : Addr} {kvs : List (Str × Value)} (x : h.DictOf (PySem.strKind prog w) fd kvs) : ∃ o, h.get? fd = some o :=
  let ⟨_, _, _, ho, _⟩ := x; ⟨_, ho⟩

theorem Lies.move (hz : ∀ x, Z x → Z' x) : ∀ {n : Nat} {S : List Addr} {v : Value} {d : D}, Lies prog w h Z n S v d → (∀ b o, h.get? b = some o → (b ∈ S ∨ Z b ∨ Soft o) → h'.get? b = some o) → Lies prog w h' Z' n S v d := by
  intro n
  induction n with
  | zero =>
    intro S v d x k
    cases d with
    | int i => exact x
    | none => exact x
    | cell c =>
      obtain ⟨e, a, dx, tk, e2, hh, hl⟩ := x
      exact ⟨e, a, dx, tk, e2, hh.keep (fun o q sf => k _ o q (.inr (.inr sf))) (fun o q => k _ o q (.inr (.inl hl))), hz _ hl⟩
    | _ => exact x.elim
  | succ n ih =>
    intro S v d x k
    cases d with
    | int i => exact x
    | none => exact x
    | cell c =>
      obtain ⟨e, a, dx, tk, e2, hh, hl⟩ := x
      exact ⟨e, a, dx, tk, e2, hh.keep (fun o q sf => k _ o q (.inr (.inr sf))) (fun o q => k _ o q (.inr (.inl hl))), hz _ hl⟩
    | arr bs items =>
      obtain ⟨a, dx, b, l, vs, S', e1, e2, i1, i2, ⟨bv, p1, p2⟩, pl, r, sz⟩ := x
      subst e2
      have kd : ∀ o, h.get? dx = some o → h'.get? dx = some o := fun o q => k _ o q (.inl (by simp))
      have ks : ∀ b o, h.get? b = some o → Soft o → h'.get? b = some o := fun b o q sf => k _ o q (.inr (.inr sf))
      refine ⟨a, dx, b, l, vs, S', e1, rfl, i1.keep (fun o q sf => ks _ o q sf) kd, i2.keep (fun o q sf => ks _ o q sf) kd, ⟨bv, p1.at fun o q => k _ o q (.inl (by simp)), p2.keep ks⟩, pl.at fun o q => k _ o q (.inl (by simp)), ?_, sz⟩
      exact r.mono fun S1 v' d' hS _ y => ih y fun b' o q hb => k b' o q (hb.imp (fun hm => by simp [hS _ hm]) id)
    | recd num fs =>
      obtain ⟨a, dx, fd, ty, tdx, tk, kvs, S', e1, e2, i1, i2, i3, hl, hd, hks, r, sz⟩ := x
      subst e2
      have kd : ∀ o, h.get? dx = some o → h'.get? dx = some o := fun o q => k _ o q (.inl (by simp))
      have ks : ∀ b o, h.get? b = some o → Soft o → h'.get? b = some o := fun b o q sf => k _ o q (.inr (.inr sf))
      exact ⟨a, dx, fd, ty, tdx, tk, kvs, S', e1, rfl, i1.keep (fun o q sf => ks _ o q sf) kd, i2.keep (fun o q sf => ks _ o q sf) kd, i3.keep (fun o q sf => ks _ o q sf) (fun o q => k _ o q (.inr (.inl hl))), hz _ hl,
        dictOf_at hd fun o q => k _ o q (.inl (by simp)), hks, r.mono fun S1 v' d' hS _ y => ih y fun b' o q hb => k b' o q (hb.imp (fun hm => by simp [hS _ hm]) id), sz⟩
theorem Lies.stays {n : Nat} {S : List Addr} {v : Value} {d : D} (x : Lies prog w h Z n S v d) (k : h.StaysIn h') : Lies prog w h' Z n S v d := x.move (fun _ q => q) fun b o e _ => k b o e
theorem Lies.up {n : Nat} {S : List Addr} {v : Value} {d : D} (x : Lies prog w h Z n S v d) (hz : ∀ x, Z x → Z' x) : Lies prog w h Z' n S v d := x.move hz fun b o e _ => e
theorem LiesL.stays {n : Nat} {S : List Addr} {vs : List Value} {ds : List D} (x : LiesL (Lies prog w h Z n) S vs ds) (k : h.StaysIn h') : LiesL (Lies prog w h' Z n) S vs ds := x.mono fun _ _ _ _ _ y => y.stays k

theorem LiesL.liveAll {P : List Addr → Value → D → Prop} {h : Heap} (hP : ∀ S v d, P S v d → ∀ x ∈ S, ∃ o, h.get? x = some o) : ∀ {S : List Addr} {vs : List Value} {ds : List D}, LiesL P S vs ds → ∀ x ∈ S, ∃ o, h.get? x = some o
  | S, [], [], e, x, hx => by have e : S = [] := e; subst e; simp at hx
  | S, _ :: _, _ :: _, ⟨S1, S2, e, a, r⟩, x, hx => by
    subst e
    rcases List.mem_append.mp hx with q | q
    · exact hP _ _ _ a x q
    · exact r.liveAll hP x q
theorem LiesL.hardAll {P : List Addr → Value → D → Prop} {h : Heap} (hP : ∀ S v d, P S v d → ∀ x ∈ S, ∃ o, h.get? x = some o ∧ ¬ Soft o) : ∀ {S : List Addr} {vs : List Value} {ds : List D}, LiesL P S vs ds → ∀ x ∈ S, ∃ o, h.get? x = some o ∧ ¬ Soft o
  | S, [], [], e, x, hx => by have e : S = [] := e; subst e; simp at hx
  | S, _ :: _, _ :: _, ⟨S1, S2, e, a, r⟩, x, hx => by
    subst e
    rcases List.mem_append.mp hx with q | q
    · exact hP _ _ _ a x q
    · exact r.hardAll hP x q
theorem not_soft_dict {o : Obj} {es : Array DictEntry} {n : Nat} (hd : o.data = .dict es n) : ¬ Soft o := by
  rintro (q | ⟨_, xs, n, q⟩) <;> rw [hd] at q <;> cases q
theorem Has.hard {h : Heap} {a dx C : Addr} {name : Str} {v : Value} (x : Has h a dx C name v) : ∃ o, h.get? dx = some o ∧ ¬ Soft o := by
  obtain ⟨e, n, a1, a2, a3⟩ := x
  exact ⟨_, a2, not_soft_dict rfl⟩
theorem dictOf_hard {fd : Addr} {kvs : List (Str × Value)} (x : h.DictOf (PySem.strKind prog w) fd kvs) : ∃ o, h.get? fd = some o ∧ ¬ Soft o :=
  let ⟨_, _, _, ho, _, hd, _⟩ := x; ⟨_, ho, not_soft_dict hd⟩
theorem Lies.hard : ∀ {n : Nat} {S : List Addr} {v : Value} {d : D}, Lies prog w h Z n S v d → ∀ x ∈ S, ∃ o, h.get? x = some o ∧ ¬ Soft o := by
  intro n
  induction n with
  | zero =>
    intro S v d x y hy
    cases d with
    | int i => rw [x.1] at hy; simp at hy
    | none => rw [x.1] at hy; simp at hy
    | cell c => rw [x.1] at hy; simp at hy
    | _ => exact x.elim
  | succ n ih =>
    intro S v d x y hy
    cases d with
    | int i => rw [x.1] at hy; simp at hy
    | none => rw [x.1] at hy; simp at hy
    | cell c => rw [x.1] at hy; simp at hy
    | arr bs items =>
      obtain ⟨a, dx, b, l, vs, S', e1, e2, i1, i2, ⟨bv, ⟨_, p1⟩, p2⟩, ⟨_, pl⟩, r, sz⟩ := x
      subst e2
      simp only [List.mem_cons] at hy
      rcases hy with rfl | rfl | rfl | hy
      · exact i1.hard
      · exact ⟨_, p1, not_soft_list ⟨_, p1⟩ p1⟩
      · exact ⟨_, pl, not_soft_list ⟨_, pl⟩ pl⟩
      · exact r.hardAll (fun S v d q => ih q) y hy
    | recd num fs =>
      obtain ⟨a, dx, fd, ty, tdx, tk, kvs, S', e1, e2, i1, i2, i3, hl, hd, hks, r, sz⟩ := x
      subst e2
      simp only [List.mem_cons] at hy
      rcases hy with rfl | rfl | hy
      · exact i1.hard
      · exact dictOf_hard hd
      · exact r.hardAll (fun S v d q => ih q) y hy
theorem Lies.live {n : Nat} {S : List Addr} {v : Value} {d : D} (x : Lies prog w h Z n S v d) : ∀ y ∈ S, ∃ o, h.get? y = some o := fun y hy => let ⟨o, e, _⟩ := x.hard y hy; ⟨o, e⟩
theorem fresh_ne {h : Heap} {x y : Addr} {o : Obj} (hx : h.get? x = some o) (hy : h.get? y = none) : x ≠ y := fun e => by
  subst e; rw [hx] at hy; cases hy
theorem stays_none {h h' : Heap} {x : Addr} (k : h.StaysIn h') (e : h'.get? x = none) : h.get? x = none := by
  cases q : h.get? x with
  | none => rfl
  | some o => rw [k _ _ q] at e; cases e
end
section
variable {prog : Program} {w : World} {A : Around} {E : Value → Shared → Prop} {s : Shared} {K : Frag} {h₀ : Heap} {L a dx C : Addr} {m : Str → Option Value} {name : Str} {v : Value}
theorem Has.inst {h : Heap} (x : Has h a dx C name v) : ∃ od, InstAt h a (instObj C dx) C (some od) := by
  obtain ⟨e, n, a1, a2, a3⟩ := x
  exact ⟨_, a1, rfl, rfl, a2⟩
theorem get_has {expr : Bool} {Q : Value → Shared → Prop} {attr : Option Value} (F : Fr h₀ L s.heap m) (X₀ : K.In h₀) (H : Has h₀ a dx C name v) (hg : plainGet K C name = true) (hh : hasDictIn K C = true)
    (ha : findIn K (.ref C) name = some attr) (hn : noGet K attr = true) (hv : handedIn v = true) (h : Q v { s with toks := s.toks + 1 }) :
    wpAny (model prog w) A (getAttr (.ref a) name expr) Q E s := by
  obtain ⟨e, n, a1, a2, a3⟩ := H.stays F.keep
  exact get_own (es := e) (n := n) F X₀ ⟨a1, rfl, rfl, a2⟩ hg hh ha hn a3 hv h
theorem has_looks {M : Model} (F : Fr h₀ L s.heap m) (H : Has h₀ a dx C name v) : Looks M s.heap (typeOf (.ref a)) (.ref C) := by
  obtain ⟨od, I⟩ := (H.stays F.keep).inst
  exact I.type
end
section
variable {s : Shared} {h₀ : Heap} {L a dx C : Addr} {m : Str → Option Value} {name : Str} {v : Value} {h : Heap}
noncomputable def Has.od (x : Has h a dx C name v) : Obj := Classical.choose x.inst
theorem Has.instAt (x : Has h a dx C name v) : InstAt h a (instObj C dx) C (some x.od) := Classical.choose_spec x.inst
theorem stays_of {h h' : Heap} (F : Fr h L h' m) : h.StaysIn h' := F.keep
end
section
variable {prog : Program} {w : World} {A : Around} {E : Value → Shared → Prop} {s : Shared} {h₀ h h' : Heap} {L a : Addr} {m : Str → Option Value} {o o' : Obj} {news pre post : List (Addr × Obj)}
/-- a ledger's entry changed -/
theorem news_change (N : News h₀ L h (pre ++ (a, o) :: post)) (hs : Heap.SameBut a h h') (ho : h'.get? a = some o') (h1 : ∀ p ∈ pre, p.1 ≠ a) (h2 : ∀ p ∈ post, p.1 ≠ a) : News h₀ L h' (pre ++ (a, o') :: post) := by
  intro p hp
  have hm := N (a, o) (by simp)
  rcases List.mem_append.mp hp with q | q
  · have z := N p (List.mem_append_left _ q)
    exact ⟨hs.extBut _ _ (h1 p q) z.1, z.2⟩
  · rcases List.mem_cons.mp q with rfl | q
    · exact ⟨ho, hm.2⟩
    · have z := N p (List.mem_append_right _ (List.mem_cons_of_mem _ q))
      exact ⟨hs.extBut _ _ (h2 p q) z.1, z.2⟩
theorem fr_change (F : Fr h₀ L h m) (hs : Heap.SameBut a h h') (hL : a ≠ L) (h0 : h₀.get? a = none) : Fr h₀ L h' m := by
  obtain ⟨oL, a1, a2, hoL, a3⟩ := F.ns
  exact ⟨⟨oL, a1, a2, hs.extBut _ _ (Ne.symm hL) hoL, a3⟩, fun b o e => hs.extBut b o (fun z => by rw [z, h0] at e; cases e) (F.keep b o e), F.above⟩
theorem fr_at {K : Addr} (F : Fr h₀ L h m) (hk : ∀ b o, b ≠ K → h.get? b = some o → h'.get? b = some o) (hL : L ≠ K) (h0 : h₀.get? K = none) : Fr h₀ L h' m := by
  obtain ⟨oL, a1, a2, hoL, a3⟩ := F.ns
  exact ⟨⟨oL, a1, a2, hk _ _ hL hoL, a3⟩, fun b o e => hk b o (fun z => by rw [z, h0] at e; cases e) (F.keep b o e), F.above⟩
theorem news_at {K : Addr} (N : News h₀ L h news) (hk : ∀ b o, b ≠ K → h.get? b = some o → h'.get? b = some o) (hn : ∀ p ∈ news, p.1 ≠ K) : News h₀ L h' news := fun p hp => ⟨hk _ _ (hn p hp) (N p hp).1, (N p hp).2⟩
theorem news_with {K : Addr} {oK : Obj} (N : News h₀ L h news) (e : h.get? K = some oK) (hL : K ≠ L) (h0 : h₀.get? K = none) : News h₀ L h ((K, oK) :: news) := fun p hp => by
  rcases List.mem_cons.mp hp with rfl | hp
  · exact ⟨e, hL, h0⟩
  · exact N p hp

/-- an item of a dict of the base, by a str -/
theorem sub_dict {value slice : PySem.Expr} {d : Addr} {kvs : List (Str × Value)} {k : Str} {t : Tok} {v : Value} {Q : Value → Shared → Prop} (F : Fr h₀ L s.heap m) (hd : h₀.DictOf (PySem.strKind prog w) d kvs) (hv : valueAt kvs k = some v) (h : Q v { s with toks := s.toks + 1 })
    (hs : subscripted slice false (.ref d) (.str k t) = operate [.ref d, .str k t] (getItem (.ref d) (.str k t)) := by with_unfolding_all rfl) :
    wpAny (model prog w) A (subscriptTail value slice (.ref d) (.str k t)) Q E s := by
  have hd' : s.heap.DictOf (PySem.strKind prog w) d kvs := hd.keep F.keep
  exact tail_any hd'.typeIs PySem.slot_dict_getitem.lookup (wpAny_getItem_of (by simp [PySem.strKind, Value.isStrOf]) hd'.mapOf hv h) hs
theorem valueAt_get : ∀ {kvs : List (Str × Value)} {i : Nat} {k : Str} {v : Value}, (kvs.map (·.1)).Nodup → kvs[i]? = some (k, v) → valueAt kvs k = some v
  | [], i, k, v, _, e => by simp at e
  | (k0, v0) :: r, 0, k, v, nd, e => by simp at e; obtain ⟨rfl, rfl⟩ := e; simp [valueAt]
  | (k0, v0) :: r, i + 1, k, v, nd, e => by
    simp at e
    rw [List.map_cons, List.nodup_cons] at nd
    have hne : k0 ≠ k := fun q => nd.1 (by rw [q]; exact List.mem_map_of_mem (f := (·.1)) (List.mem_of_getElem? e))
    have := valueAt_get nd.2 e
    simpa [valueAt, List.find?_cons, hne] using this
end

section
variable {h₀ h : Heap} {L : Addr} {m : Str → Option Value} {news : List (Addr × Obj)}
/-- all that stands beside the base, the frame and the ledger, as a ledger -/
theorem snap (F : Fr h₀ L h m) (N : News h₀ L h news) : ∃ gl, News h₀ L h (news ++ gl) ∧ (∀ p ∈ gl, ∀ q ∈ news, p.1 ≠ q.1) ∧
    ∀ h' m', Fr h₀ L h' m' → News h₀ L h' gl → ∀ b o, h.get? b = some o → b ≠ L → (∀ p ∈ news, p.1 ≠ b) → h'.get? b = some o := by
  classical
  let f : Nat → Option (Addr × Obj) := fun b => match h.get? b with
    | some o => if h₀.get? b = none ∧ b ≠ L ∧ ∀ p ∈ news, p.1 ≠ b then some (b, o) else none
    | none => none
  have hf : ∀ b p, f b = some p → p.1 = b ∧ h.get? b = some p.2 ∧ h₀.get? b = none ∧ b ≠ L ∧ ∀ p ∈ news, p.1 ≠ b := by
    intro b p e
    simp only [f] at e
    split at e
    · rename_i o ho
      split at e
      · rename_i hc
        cases e
        exact ⟨rfl, ho, hc⟩
      · cases e
    · cases e
  refine ⟨(List.range h.objs.size).filterMap f, fun p hp => ?_, fun p hp q hq => ?_, fun h' m' F' N' b o e hL hn => ?_⟩
  · rcases List.mem_append.mp hp with hp | hp
    · exact N p hp
    · obtain ⟨b, _, hb⟩ := List.mem_filterMap.mp hp
      obtain ⟨rfl, h1, h2, h3, _⟩ := hf b p hb
      exact ⟨h1, h3, h2⟩
  · obtain ⟨b, _, hb⟩ := List.mem_filterMap.mp hp
    obtain ⟨rfl, _, _, _, h4⟩ := hf b p hb
    exact (h4 q hq).symm
  · cases h0 : h₀.get? b with
    | some o' =>
      have := F.keep b o' h0
      rw [e] at this; cases this
      exact F'.keep b o h0
    | none =>
      have : f b = some (b, o) := by
        simp only [f, e]
        rw [if_pos ⟨h0, hL, hn⟩]
      exact (N' (b, o) (List.mem_filterMap.mpr ⟨b, List.mem_range.mpr (Heap.lt_size e), this⟩)).1
theorem stored_new {kvs : List (Str × Value)} {k : Str} {v : Value} (h : k ∉ kvs.map (·.1)) : stored kvs k v = kvs ++ [(k, v)] := by
  unfold stored
  rw [if_neg]
  intro q
  obtain ⟨p, hp, e⟩ := List.any_eq_true.mp q
  exact h (List.mem_map.mpr ⟨p, hp, by simpa using e⟩)
end
theorem fr_map {h₀ h : Heap} {L : Addr} {m m' : Str → Option Value} (F : Fr h₀ L h m) (e : ∀ y, m y = m' y) : Fr h₀ L h m' := by
  have : m = m' := funext e
  exact this ▸ F
theorem fr_again {h₀ h : Heap} {L : Addr} {m : Str → Option Value} {x : Str} {u v : Option Value} (F : Fr h₀ L h (fun y => if y = x then v else if y = x then u else m y)) : Fr h₀ L h (fun y => if y = x then v else m y) :=
  fr_map F fun y => by by_cases q : y = x <;> simp [q]
theorem fr_first {h₀ h : Heap} {L : Addr} {m : Str → Option Value} {x : Str} (F : Fr h₀ L h m) : Fr h₀ L h (fun y => if y = x then m x else m y) :=
  fr_map F fun y => by by_cases q : y = x <;> simp [q]

theorem key_not_before {α β : Type} : ∀ {l : List (α × β)} {i : Nat} {k : α} {d : β}, (l.map (·.1)).Nodup → l[i]? = some (k, d) → k ∉ (l.take i).map (·.1)
  | [], i, k, d, _, e => by simp at e
  | p :: l, 0, k, d, _, e => by simp
  | p :: l, i + 1, k, d, nd, e => by
    rw [List.map_cons, List.nodup_cons] at nd
    rw [List.take_succ_cons, List.map_cons, List.mem_cons, not_or]
    simp at e
    exact ⟨fun q => nd.1 (by rw [← q]; exact List.mem_map_of_mem (f := (·.1)) (List.mem_of_getElem? e)), key_not_before nd.2 e⟩

theorem snapAll {h₀ h : Heap} {L : Addr} {m : Str → Option Value} (F : Fr h₀ L h m) : ∃ gl, News h₀ L h gl ∧ ∀ h' m', Fr h₀ L h' m' → News h₀ L h' gl → ∀ b o, h.get? b = some o → b ≠ L → h'.get? b = some o := by
  obtain ⟨gl, a, _, c⟩ := snap F (News.nil (h₀ := h₀) (h := h) (L := L))
  exact ⟨gl, a, fun h' m' F' N' b o e hL => c h' m' F' N' b o e hL fun p hp => absurd hp List.not_mem_nil⟩
theorem news_app {h₀ h : Heap} {L : Addr} {a b : List (Addr × Obj)} (x : News h₀ L h a) (y : News h₀ L h b) : News h₀ L h (a ++ b) := fun p hp => (List.mem_append.mp hp).elim (x p) (y p)
theorem news_sub {h₀ h : Heap} {L : Addr} {a b : List (Addr × Obj)} (x : News h₀ L h a) (y : ∀ p ∈ b, p ∈ a) : News h₀ L h b := fun p hp => x p (y p hp)

theorem fr_keepX {h₀ h h' : Heap} {L : Addr} {m : Str → Option Value} {S : List Addr} (F : Fr h₀ L h m) (hk : ∀ b o, h.get? b = some o → b ∉ S → h'.get? b = some o) (h0 : ∀ x ∈ S, h₀.get? x = none) (hL : L ∉ S) : Fr h₀ L h' m := by
  obtain ⟨oL, a1, a2, hoL, a3⟩ := F.ns
  exact ⟨⟨oL, a1, a2, hk _ _ hoL hL, a3⟩, fun b o e => hk b o (F.keep b o e) (fun z => by rw [h0 b z] at e; cases e), F.above⟩
theorem news_keepX {h₀ h h' : Heap} {L : Addr} {news : List (Addr × Obj)} {S : List Addr} (N : News h₀ L h news) (hk : ∀ b o, h.get? b = some o → b ∉ S → h'.get? b = some o) (hn : ∀ p ∈ news, p.1 ∉ S) : News h₀ L h' news := fun p hp => ⟨hk _ _ (N p hp).1 (hn p hp), (N p hp).2⟩
theorem drop_cons {α : Type} {l : List α} {i : Nat} {a : α} (h : l[i]? = some a) : l.drop i = a :: l.drop (i + 1) := by
  obtain ⟨hi, rfl⟩ := List.getElem?_eq_some_iff.mp h
  exact List.drop_eq_getElem_cons hi

section
variable {prog : Program} {w : World} {A : Around} {E : Value → Shared → Prop} {s : Shared} {h₀ : Heap} {L : Addr} {m : Str → Option Value} {news : List (Addr × Obj)}
/-- an item of a dict of the ledger, by a str -/
theorem sub_dictN {value slice : PySem.Expr} {d : Addr} {o : Obj} {kvs : List (Str × Value)} {k : Str} {t : Tok} {v : Value} {Q : Value → Shared → Prop} (N : News h₀ L s.heap news) (hm : (d, o) ∈ news) (ho : o.IsDictOf (PySem.strKind prog w) kvs) (hv : valueAt kvs k = some v) (h : Q v { s with toks := s.toks + 1 })
    (hs : subscripted slice false (.ref d) (.str k t) = operate [.ref d, .str k t] (getItem (.ref d) (.str k t)) := by with_unfolding_all rfl) :
    wpAny (model prog w) A (subscriptTail value slice (.ref d) (.str k t)) Q E s := by
  have hd' : s.heap.DictOf (PySem.strKind prog w) d kvs := Heap.dictOf_iff.mpr ⟨o, (N _ hm).1, ho⟩
  exact tail_any hd'.typeIs PySem.slot_dict_getitem.lookup (wpAny_getItem_of (by simp [PySem.strKind, Value.isStrOf]) hd'.mapOf hv h) hs
/-- a store into a dict of the ledger, by a str -/
theorem set_dictN {d : Addr} {o : Obj} {kvs : List (Str × Value)} {k : Str} {t : Tok} {v : Value} {pre post : List (Addr × Obj)} {Q : Unit → Shared → Prop} (F : Fr h₀ L s.heap m) (N : News h₀ L s.heap (pre ++ (d, o) :: post)) (ho : o.IsDictOf (PySem.strKind prog w) kvs) (hlen : kvs.length ≤ sizeLine)
    (h1 : ∀ p ∈ pre, p.1 ≠ d) (h2 : ∀ p ∈ post, p.1 ≠ d)
    (h : ∀ h' o', Fr h₀ L h' m → News h₀ L h' (pre ++ (d, o') :: post) → o'.IsDictOf (PySem.strKind prog w) (stored kvs k v) → Heap.SameBut d s.heap h' → Q () { s with heap := h', toks := s.toks + 1 }) :
    wpAny (model prog w) A (setItem (.ref d) (.str k t) v) Q E s := by
  have hm := N (d, o) (by simp)
  refine wpAny_setItem_pairs (knd := PySem.strKind prog w) (k := k) (kvs := kvs) (by simp [PySem.strKind, Value.isStrOf]) (Heap.dictOf_iff.mpr ⟨o, hm.1, ho⟩) (fun h6 hd6 hs6 => ?_) hlen
  obtain ⟨o6, hg6, ho6⟩ := Heap.dictOf_iff.mp hd6
  exact h h6 o6 (fr_change F hs6 hm.2.1 hm.2.2) (news_change N hs6 hg6 h1 h2) ho6 hs6
theorem stored_len (kvs : List (Str × Value)) (k : Str) (v : Value) : (stored kvs k v).length ≤ kvs.length + 1 := by
  unfold stored
  split
  · rw [List.length_map]; omega
  · rw [List.length_append]; simp
end
local macro_rules | `(tactic| k_types) => `(tactic| (intro M; exact has_looks (by k_asm) (by with_reducible assumption)))
local macro_rules | `(tactic| k_inst) => `(tactic| (refine' Has.instAt (Has.stays ?H (stays_of ?F)); (case H => with_reducible assumption); (case F => k_asm)))
theorem lines_Lines : True := by
  k_with "getAttr ref" => (k_here; k_dflt (refine' get_has (by k_asm) (by k_asm) (by with_reducible assumption) (by k_is) (by k_is) (by k_is) (by k_is) (by exact rfl) ?_; k_whole))
  k_with "my comp" => (
  (case hh => rfl); (case hclos => exact closureFor_none (by decide)); (case hcell => decide); (case hkind => rfl); (case hnames => decide); (case hx => rfl); (case hs => intro x; rfl))
  k_with "my room" => first | omega | (dsimp only [Around.deeper, Around.in1]; omega)
  k_with "call ref" => (refine hold ?_)
  k_with "subscriptTail" => (k_here; (with_reducible show wpAny _ _ (subscriptTail _ _ (Value.ref _) (Value.str _ _)) _ _ _); k_dflt (refine' sub_dict (by k_asm) (by with_reducible assumption) (by with_reducible assumption) ?_; k_whole))
  k_with "subscriptTail" => (k_here; (with_reducible show wpAny _ _ (subscriptTail _ _ (Value.ref _) (Value.str _ _)) _ _ _); k_dflt (refine' sub_dictN (by k_asm) (by first | k_mem | (simp; done)) (by with_reducible assumption) (by with_reducible assumption) ?_; k_whole))
  trivial
section
variable {w : World} {dp un : Nat} {fr : Option (List Env)} {gd : Option (List Code)} {E : Value → Shared → Prop} {s : Shared} {Q : Value → Shared → Prop} {mean : ExcName → Option Value} {mg mb : Str → Option Value}

/-- an own class called: its instance made, its __init__ entered -/
theorem new_inst {C fI : Addr} {args : List Value} {name qual : Str} {params : Arguments} {body : List Stmt} {scope : Scope} {dV kV doc pm cdv ct oc : Value} {an od : Option Addr} {osl : Array (Option Value)}
    (binds : Addr → List (Str × Value)) (X : (hd.heap_39 w.params).In s.heap) (hlim : s.heap.NoLimit) (hroom : dp + 2 < recursionLimit)
    (hm : makesIn (hd.heap_39 w.params) C = true) (hi : findIn (hd.heap_39 w.params) (.ref C) "__init__" = some (some (.ref fI))) (hf : typeIn (hd.heap_39 w.params) (.ref fI) = some (.type "function"))
    (ho : (hd.heap_39 w.params).lookup fI = some ⟨oc, od, .func (fnX name qual params body scope [] dV kV doc pm an cdv ct), osl⟩) (hcd : codeIn (hd.heap_39 w.params) cdv qual = true)
    (hbind : ∀ x s', BindsTo s' (fnX name qual params body scope [] dV kV doc pm an cdv ct) ⟨.ref x :: args, []⟩ (binds x)) (hloc : ∀ x, ∀ y ∈ binds x, scope.names.lookup y.1 = some .local)
    (hcell : ∀ x ∈ scope.names, x.2 ≠ .cell) (hco : scope.isCoroutine = false) (hgen : scope.isGenerator = false) (hk : scope.kind = .function)
    (h : ∀ dp' un' fr' gd' x dx L h₁ tk, dx = s.heap.objs.size → @LT.lt Nat _ dx x → @LT.lt Nat _ x L → @LT.lt Nat _ dx L → dp' = dp + 1 → Fr s.heap L h₁ (fun y => (binds x).reverse.lookup y) → News s.heap L h₁ [(x, instObj C dx), (dx, W.dictOf [] 0)] →
      wpAny (model PySem.Challenge.rw_xw0007_01.prog w) ((Ar dp' un' fr' gd').deeper (envX qual scope L fI cdv [])) (execs body (envX qual scope L fI cdv []))
        (fun fl s' => Hold ((match fl with | .ret v => v | _ => .none) = .none ∧ Q (.ref x) s')) (fun _ _ => False) { s with heap := h₁, toks := tk }) :
    wpAny (model PySem.Challenge.rw_xw0007_01.prog w) (Ar dp un fr gd) (call (.ref C) args) Q E s := by
  refine wpAny_call ?_
  obtain ⟨hh, g, d, t, os⟩ := s
  refine make_core (makes_of X hm) (looks_findIn X hi) (fun self => bind_fn X self hf) (.inl rfl) ?_
  have old : hh.StaysIn ((hh.push emptyDict).push (instObj C hh.objs.size)) := fun b o e => Heap.get?_push_of_some _ (Heap.get?_push_of_some _ e)
  have hD : ((hh.push emptyDict).push (instObj C hh.objs.size)).get? hh.objs.size = some emptyDict := Heap.get?_push_of_some _ (Heap.get?_push_size _ rfl)
  have hX : ((hh.push emptyDict).push (instObj C hh.objs.size)).get? (hh.objs.size + 1) = some (instObj C hh.objs.size) := by
    have := Heap.get?_push_size (hh.push emptyDict) (o := instObj C hh.objs.size) rfl
    rwa [Heap.size_push] at this
  have hsz : ((hh.push emptyDict).push (instObj C hh.objs.size)).objs.size = hh.objs.size + 2 := by rw [Heap.size_push, Heap.size_push]
  refine codeAny_call_def (fd := fnX name qual params body scope [] dV kV doc pm an cdv ct) (body := body) (binds := binds (hh.objs.size + 1)) ?_ (X.keeps old _ _ ho) rfl (hlim.keeps old) (codeRec_of (X.keeps old) hcd) rfl (hbind _ _) hcell (hloc _) (fun h₁ hns hk₁ => ?_) hco hgen hk
  · rw [depth_under_make]; exact Nat.lt_of_succ_lt hroom
  refine wpAny_mono (h _ _ _ _ (hh.objs.size + 1) hh.objs.size ((hh.push emptyDict).push (instObj C hh.objs.size)).objs.size h₁ _ rfl (Nat.lt_succ_self _) (by rw [hsz]; exact Nat.lt_succ_self _) (by rw [hsz]; exact Nat.lt_succ_of_lt (Nat.lt_succ_self _)) ?_ ⟨hns, stays_trans old hk₁, by rw [hsz]; exact Nat.le_add_right _ _⟩ ?_) (fun fl s' hl => ?_) fun _ _ y => y.elim
  · exact depth_under_make ..
  · intro p hp
    rcases List.mem_cons.mp hp with rfl | hp
    · exact ⟨hk₁ _ _ hX, by rw [hsz]; exact Nat.ne_of_lt (Nat.lt_succ_self _), Heap.get?_none_of_le (Nat.le_succ _)⟩
    · rw [List.mem_singleton.mp hp]
      exact ⟨hk₁ _ _ hD, by rw [hsz]; exact Nat.ne_of_lt (Nat.lt_succ_of_lt (Nat.lt_succ_self _)), Heap.get?_none_of_le (Nat.le_refl _)⟩
  · exact hl
end
section
variable {w : World} {dp un : Nat} {fr : Option (List Env)} {gd : Option (List Code)} {E : Value → Shared → Prop} {s : Shared} {Q : Value → Shared → Prop} {mean : ExcName → Option Value} {mg mb : Str → Option Value}

/-- what a class of two attributes gives -/
def Two (h h' : Heap) (C : Addr) (n1 n2 : Str) (v1 v2 : Value) (a dx : Addr) : Prop :=
  h.StaysIn h' ∧ h.get? dx = none ∧ Has h' a dx C n1 v1 ∧ Has h' a dx C n2 v2

theorem new_array (X : (hd.heap_39 w.params).In s.heap) (T : Top hd.view_39 (looseW hd.view_39 []) mean mg mb s.heap) (hdep : dp + 2 < recursionLimit) {v1 v2 : Value}
    (hQ : ∀ h' tk a dx, Two s.heap h' 131 (Str.ofString "bounds") (Str.ofString "items") v1 v2 a dx → Q (.ref a) { s with heap := h', toks := tk }) :
    wpAny (model PySem.Challenge.rw_xw0007_01.prog w) (Ar dp un fr gd) (call (.ref 131) [v1, v2]) Q E s := by
  refine' new_inst (C := 131) (fI := 128) (fun x => [(Str.ofString "self", .ref x), (Str.ofString "bounds", v1), (Str.ofString "items", v2)]) X T.nolimit (by first | omega | walk_at "my room") ?hm ?hi ?hf ?ho ?hcd ?hb ?hl ?hc ?h1 ?h2 ?h3 ?_
  case hm => k_is
  case hi => k_is
  case hf => k_is
  case ho => k_is
  case hcd => k_is
  case hb => exact fun _ _ => BindsTo.of_eq rfl
  case hl => exact fun _ => locs rfl
  case hc => decide
  case h1 => rfl
  case h2 => rfl
  case h3 => rfl
  intro dp' un' fr' gd' x dx L h₁ tk hdx lt1 lt2 lt3 hdp F N
  k_steps
  with_reducible rename Fr _ _ _ _ => F2
  with_reducible rename News _ _ _ _ => N2
  have e1 := (N2 _ (.head _)).1
  have e2 := (N2 _ (.tail _ (.head _))).1
  exact ⟨rfl, hQ _ _ _ _ ⟨F2.keep, (N2 _ (.tail _ (.head _))).2.2, ⟨_, _, e1, e2, rfl⟩, ⟨_, _, e1, e2, rfl⟩⟩⟩

theorem new_record (X : (hd.heap_39 w.params).In s.heap) (T : Top hd.view_39 (looseW hd.view_39 []) mean mg mb s.heap) (hdep : dp + 2 < recursionLimit) {v1 v2 : Value}
    (hQ : ∀ h' tk a dx, Two s.heap h' 152 (Str.ofString "type") (Str.ofString "fields") v1 v2 a dx → Q (.ref a) { s with heap := h', toks := tk }) :
    wpAny (model PySem.Challenge.rw_xw0007_01.prog w) (Ar dp un fr gd) (call (.ref 152) [v1, v2]) Q E s := by
  refine' new_inst (C := 152) (fI := 149) (fun x => [(Str.ofString "self", .ref x), (Str.ofString "t", v1), (Str.ofString "fields", v2)]) X T.nolimit (by first | omega | walk_at "my room") ?hm ?hi ?hf ?ho ?hcd ?hb ?hl ?hc ?h1 ?h2 ?h3 ?_
  case hm => k_is
  case hi => k_is
  case hf => k_is
  case ho => k_is
  case hcd => k_is
  case hb => exact fun _ _ => BindsTo.of_eq rfl
  case hl => exact fun _ => locs rfl
  case hc => decide
  case h1 => rfl
  case h2 => rfl
  case h3 => rfl
  intro dp' un' fr' gd' x dx L h₁ tk hdx lt1 lt2 lt3 hdp F N
  k_steps
  with_reducible rename Fr _ _ _ _ => F2
  with_reducible rename News _ _ _ _ => N2
  have e1 := (N2 _ (.head _)).1
  have e2 := (N2 _ (.tail _ (.head _))).1
  exact ⟨rfl, hQ _ _ _ _ ⟨F2.keep, (N2 _ (.tail _ (.head _))).2.2, ⟨_, _, e1, e2, rfl⟩, ⟨_, _, e1, e2, rfl⟩⟩⟩

theorem new_subtype (X : (hd.heap_39 w.params).In s.heap) (T : Top hd.view_39 (looseW hd.view_39 []) mean mg mb s.heap) (hdep : dp + 2 < recursionLimit) {v1 v2 : Value}
    (hQ : ∀ h' tk a dx, Two s.heap h' 250 (Str.ofString "type") (Str.ofString "constraint") v1 v2 a dx → Q (.ref a) { s with heap := h', toks := tk }) :
    wpAny (model PySem.Challenge.rw_xw0007_01.prog w) (Ar dp un fr gd) (call (.ref 250) [v1, v2]) Q E s := by
  refine' new_inst (C := 250) (fI := 247) (fun x => [(Str.ofString "self", .ref x), (Str.ofString "t", v1), (Str.ofString "constraint", v2)]) X T.nolimit (by first | omega | walk_at "my room") ?hm ?hi ?hf ?ho ?hcd ?hb ?hl ?hc ?h1 ?h2 ?h3 ?_
  case hm => k_is
  case hi => k_is
  case hf => k_is
  case ho => k_is
  case hcd => k_is
  case hb => exact fun _ _ => BindsTo.of_eq rfl
  case hl => exact fun _ => locs rfl
  case hc => decide
  case h1 => rfl
  case h2 => rfl
  case h3 => rfl
  intro dp' un' fr' gd' x dx L h₁ tk hdx lt1 lt2 lt3 hdp F N
  k_steps
  with_reducible rename Fr _ _ _ _ => F2
  with_reducible rename News _ _ _ _ => N2
  have e1 := (N2 _ (.head _)).1
  have e2 := (N2 _ (.tail _ (.head _))).1
  exact ⟨rfl, hQ _ _ _ _ ⟨F2.keep, (N2 _ (.tail _ (.head _))).2.2, ⟨_, _, e1, e2, rfl⟩, ⟨_, _, e1, e2, rfl⟩⟩⟩

theorem new_cell (X : (hd.heap_39 w.params).In s.heap) (T : Top hd.view_39 (looseW hd.view_39 []) mean mg mb s.heap) (hdep : dp + 2 < recursionLimit) {v1 : Value} {i : Int} {t : Tok}
    (hQ : ∀ h' tk a dx, s.heap.StaysIn h' → s.heap.get? dx = none → Has h' a dx 110 (Str.ofString "number") (.int i t) → Q (.ref a) { s with heap := h', toks := tk }) :
    wpAny (model PySem.Challenge.rw_xw0007_01.prog w) (Ar dp un fr gd) (call (.ref 110) [v1, .int i t]) Q E s := by
  refine' new_inst (C := 110) (fI := 107) (fun x => [(Str.ofString "self", .ref x), (Str.ofString "value", v1), (Str.ofString "number", .int i t)]) X T.nolimit (by first | omega | walk_at "my room") ?hm ?hi ?hf ?ho ?hcd ?hb ?hl ?hc ?h1 ?h2 ?h3 ?_
  case hm => k_is
  case hi => k_is
  case hf => k_is
  case ho => k_is
  case hcd => k_is
  case hb => exact fun _ _ => BindsTo.of_eq rfl
  case hl => exact fun _ => locs rfl
  case hc => decide
  case h1 => rfl
  case h2 => rfl
  case h3 => rfl
  intro dp' un' fr' gd' x dx L h₁ tk hdx lt1 lt2 lt3 hdp F N
  k_steps
  with_reducible rename Fr _ _ _ _ => F2
  with_reducible rename News _ _ _ _ => N2
  have e1 := (N2 _ (.head _)).1
  have e2 := (N2 _ (.tail _ (.head _))).1
  exact ⟨rfl, hQ _ _ _ _ F2.keep (N2 _ (.tail _ (.head _))).2.2 ⟨_, _, e1, e2, rfl⟩⟩
end
def CopyOk (w : World) (n : Nat) : Prop := ∀ {mean : ExcName → Option Value} {mg mb : Str → Option Value} {dp un : Nat} {fr : Option (List Env)} {gd : Option (List Code)} {E : Value → Shared → Prop} {s : Shared} {Q : Value → Shared → Prop} {Z : Addr → Prop} {S : List Addr} {v : Value} {d : D},
  (hd.heap_39 w.params).In s.heap → Top hd.view_39 (looseW hd.view_39 []) mean mg mb s.heap → dp + n + 3 < recursionLimit → un + 6 * n + 20 < cLine → (∀ x, Z x → ∃ o, s.heap.get? x = some o) →
  Lies PySem.Challenge.rw_xw0007_01.prog w s.heap Z n S v d →
  (∀ h' tk v' S', s.heap.StaysIn h' → Lies PySem.Challenge.rw_xw0007_01.prog w h' Z n S' v' d → (∀ x ∈ S', s.heap.get? x = none) → S'.Nodup → Q v' { s with heap := h', toks := tk }) →
  wpAny (model PySem.Challenge.rw_xw0007_01.prog w) (Ar dp un fr gd) (call (.ref 168) [v]) Q E s

section
variable {w : World} {dp un : Nat} {fr : Option (List Env)} {gd : Option (List Code)} {E : Value → Shared → Prop} {s : Shared} {Q : Value → Shared → Prop} {mean : ExcName → Option Value} {mg mb : Str → Option Value}

theorem copy_int (X : (hd.heap_39 w.params).In s.heap) (T : Top hd.view_39 (looseW hd.view_39 []) mean mg mb s.heap) (hdep : dp + 2 < recursionLimit) {i : Int} {t : Tok}
    (hQ : ∀ h' tk, s.heap.StaysIn h' → Q (.int i t) { s with heap := h', toks := tk }) :
    wpAny (model PySem.Challenge.rw_xw0007_01.prog w) (Ar dp un fr gd) (call (.ref 168) [.int i t]) Q E s := by
  refine' enter [(Str.ofString "value", .int i t)] X T.nolimit (by omega) ?ho ?hcd ?hb ?hl ?hc ?h1 ?h2 ?h3 ?_
  case ho => k_is
  case hcd => k_is
  case hb => exact BindsTo.of_eq rfl
  case hl => exact locs rfl
  case hc => decide
  case h1 => rfl
  case h2 => rfl
  case h3 => rfl
  intro L h₁ hL F N
  k_fold
  k_steps
  exact hQ _ _ F.keep

theorem copy_none (X : (hd.heap_39 w.params).In s.heap) (T : Top hd.view_39 (looseW hd.view_39 []) mean mg mb s.heap) (hdep : dp + 2 < recursionLimit)
    (hQ : ∀ h' tk, s.heap.StaysIn h' → Q .none { s with heap := h', toks := tk }) :
    wpAny (model PySem.Challenge.rw_xw0007_01.prog w) (Ar dp un fr gd) (call (.ref 168) [.none]) Q E s := by
  refine' enter [(Str.ofString "value", .none)] X T.nolimit (by omega) ?ho ?hcd ?hb ?hl ?hc ?h1 ?h2 ?h3 ?_
  case ho => k_is
  case hcd => k_is
  case hb => exact BindsTo.of_eq rfl
  case hl => exact locs rfl
  case hc => decide
  case h1 => rfl
  case h2 => rfl
  case h3 => rfl
  intro L h₁ hL F N
  k_fold
  k_steps
  exact hQ _ _ F.keep

theorem copy_cell (X : (hd.heap_39 w.params).In s.heap) (T : Top hd.view_39 (looseW hd.view_39 []) mean mg mb s.heap) (hdep : dp + 2 < recursionLimit) {a dx : Addr} {i : Int} {t : Tok} (H : Has s.heap a dx 110 (Str.ofString "number") (.int i t))
    (hQ : ∀ h' tk, s.heap.StaysIn h' → Q (.ref a) { s with heap := h', toks := tk }) :
    wpAny (model PySem.Challenge.rw_xw0007_01.prog w) (Ar dp un fr gd) (call (.ref 168) [.ref a]) Q E s := by
  refine' enter [(Str.ofString "value", .ref a)] X T.nolimit (by omega) ?ho ?hcd ?hb ?hl ?hc ?h1 ?h2 ?h3 ?_
  case ho => k_is
  case hcd => k_is
  case hb => exact BindsTo.of_eq rfl
  case hl => exact locs rfl
  case hc => decide
  case h1 => rfl
  case h2 => rfl
  case h3 => rfl
  intro L h₁ hL F N
  k_fold
  k_steps
  exact hQ _ _ F.keep


theorem take_snoc {α : Type} {l : List α} {i : Nat} {a : α} (h : l[i]? = some a) : l.take (i + 1) = l.take i ++ [a] := by
  rw [List.take_succ, h]; rfl
theorem LiesL.at {P : List Addr → Value → D → Prop} : ∀ {S : List Addr} {vs : List Value} {ds : List D} {i : Nat} {v : Value}, LiesL P S vs ds → vs[i]? = some v → ∃ S1 d, ds[i]? = some d ∧ P S1 v d
  | _, [], [], i, v, _, e => by simp at e
  | _, v0 :: vs, d0 :: ds, 0, v, ⟨S1, S2, _, a, r⟩, e => by simp at e; subst e; exact ⟨S1, d0, by simp, a⟩
  | _, v0 :: vs, d0 :: ds, i + 1, v, ⟨S1, S2, _, a, r⟩, e => by simp at e; obtain ⟨S', d, q, y⟩ := r.at e; exact ⟨S', d, by simpa using q, y⟩

theorem copy_arr {n : Nat} {Z : Addr → Prop} {items : List D} {bs : List (Int × Int)} {S : List Addr} (ih : CopyOk w n) (X : (hd.heap_39 w.params).In s.heap) (T : Top hd.view_39 (looseW hd.view_39 []) mean mg mb s.heap) (hdep : dp + n + 4 < recursionLimit) (hu : un + 6 * n + 26 < cLine) (hz : (∀ x, Z x → ∃ o, s.heap.get? x = some o))
    {a dx b l : Addr} {vs : Array Value} (H : Has s.heap a dx 131 (Str.ofString "bounds") (.ref b)) (H2 : Has s.heap a dx 131 (Str.ofString "items") (.ref l))
    (H3 : PairsAt s.heap b bs) (H4 : s.heap.PlainList l vs) (H5 : LiesL (Lies PySem.Challenge.rw_xw0007_01.prog w s.heap Z n) S vs.toList items) (hb : bs.length ≤ 100) (hsz : items.length ≤ 100)
    (hQ : ∀ h' tk v' S', s.heap.StaysIn h' → Lies PySem.Challenge.rw_xw0007_01.prog w h' Z (n + 1) S' v' (.arr bs items) → (∀ x ∈ S', s.heap.get? x = none) → S'.Nodup → Q v' { s with heap := h', toks := tk }) :
    wpAny (model PySem.Challenge.rw_xw0007_01.prog w) (Ar dp un fr gd) (call (.ref 168) [.ref a]) Q E s := by
  obtain ⟨bv, B1, B2⟩ := H3
  have B3 := B1.isList
  have L3 := H4.isList
  have bsz : bv.size ≤ sizeLine := by
    have := B2.length
    rw [Array.length_toList] at this
    rw [this, sizeLine]; omega
  have lsz : vs.size ≤ sizeLine := by
    have := H5.length
    rw [Array.length_toList] at this
    rw [this, sizeLine]; omega
  refine' enter [(Str.ofString "value", .ref a)] X T.nolimit (by omega) ?ho ?hcd ?hb ?hl ?hc ?h1 ?h2 ?h3 ?_
  case ho => k_is
  case hcd => k_is
  case hb => exact BindsTo.of_eq rfl
  case hl => exact locs rfl
  case hc => decide
  case h1 => rfl
  case h2 => rfl
  case h3 => rfl
  intro L h₁ hL F N
  k_fold
  k_steps
  apply unhold
  refine' comp_list (cl := []) ?hh ?hclos ?hcell ?hkind ?hnames ?hx ?h ?hs
  walk_at "my comp"
  k_steps
  with_reducible rename Fr _ _ _ _ => F2
  with_reducible rename News _ _ _ _ => N2
  rename_i D' c' h2 l1
  have X2 := X.keeps F2.keep
  have T2 := T.keeps F2.keep
  have hk2 := F2.keep
  have hzk : ∀ x, Z x → ∃ o, h2.get? x = some o := fun x q => let ⟨o, e⟩ := hz x q; ⟨o, F2.keep _ _ e⟩
  refine ⟨l, vs, rfl, L3.at fun o e => F2.keep _ _ e, lsz, fun hh K e hK => ?_⟩
  obtain rfl : h2 = hh := e
  refine ⟨[], LiN w Z n items h2 K, (fun _ hb => absurd hb List.not_mem_nil), List.not_mem_nil, ⟨[], rfl, List.nodup_nil, fun _ hb => absurd hb List.not_mem_nil⟩, ?_, ?_, ?_⟩
  · rintro i ys h h' ⟨S', r, nd, hx⟩ hk
    refine ⟨S', r.mono fun S1 v d hS _ y => y.move (fun _ q => q) fun b o e hb => hk b o e ?_, nd, hx⟩
    rcases hb with hb | hb | hb
    · exact .inr (hx b (hS b hb)).2
    · obtain ⟨o', hb⟩ := hzk b hb
      have hb := ltN (Heap.lt_size hb)
      exact .inr ⟨neN (by omega), neN (by omega), neN (by omega)⟩
    · exact .inl hb
  · rintro i v ys h3 g3 d3 t3 os3 m₃ hv ⟨S', r, nd, hx⟩ hns hm hsz hlv hk
    obtain ⟨S1, d, hd, hlie⟩ := H5.at (by simpa using hv)
    have FC : Fr h2 (K + 2) h3 m₃ := ⟨hns, fun b o e => hk b o List.not_mem_nil e, by rw [hK]; exact Nat.le_add_right _ _⟩
    have NC : News h2 (K + 2) h3 [] := News.nil
    have hlie3 : Lies PySem.Challenge.rw_xw0007_01.prog w h3 Z n S1 v d := hlie.stays (stays_trans hk2 FC.keep)
    have r3 := r
    have hx3 : ∀ x ∈ S', ∃ o, h3.get? x = some o := r.liveAll fun _ _ _ q => q.live
    have X3 := X2.keeps FC.keep
    have T3 := T2.keeps FC.keep
    clear F2 N2
    k_steps
    apply unhold
    refine ih X3 T3 (by walk_at "my room") (by walk_at "my room") (fun x q => let ⟨o, e⟩ := hzk x q; ⟨o, FC.keep _ _ e⟩) hlie3 fun h4 tk4 v4 S4 hk4 l4 hx4 nd4 => ?_
    k_unfold
    refine ⟨h4, tk4, rfl, fun b o _ _ e => hk4 b o e, ⟨m₃, hns.keeps hk4⟩, S' ++ S4, ?_, ?_, ?_⟩
    · rw [take_snoc hd]
      exact (r.stays hk4).snoc l4
    · refine List.nodup_append.mpr ⟨nd, nd4, fun x h1 y h2 => ?_⟩
      obtain ⟨o, e⟩ := hx3 x h1
      exact fresh_ne e (hx4 y h2)
    · intro x hx'
      rcases List.mem_append.mp hx' with q | q
      · exact hx x q
      · have q3 := hx4 x q
        refine ⟨stays_none FC.keep q3, ?_, ?_, ?_⟩
        · obtain ⟨o, e⟩ := hlv K (.inl rfl); exact (fresh_ne e q3).symm
        · obtain ⟨o, e⟩ := hlv (K + 1) (.inr (.inl rfl)); exact (fresh_ne e q3).symm
        · obtain ⟨o, e⟩ := hlv (K + 2) (.inr (.inr rfl)); exact (fresh_ne e q3).symm
  · rintro h' tk ys hpl hys ⟨S', r, nd, hx⟩ hk
    have hk3 : h2.StaysIn h' := fun b o e => hk b o List.not_mem_nil e
    have F3 := Fr.keeps F2 hk3
    have N3 := News.grown N2 hk3
    have hD := (N2 _ (.head _)).1
    have hDf := (N2 _ (.head _)).2.2
    have hx3 : ∀ x ∈ S', ∃ o, h'.get? x = some o := r.liveAll fun _ _ _ q => q.live
    have hK0 : s.heap.get? (K + 1) = none := stays_none F2.keep (by rw [hK]; exact Heap.get?_none_of_le (Nat.le_add_right _ _))
    have hDK : D' ≠ K + 1 := neN (by have := ltN (Heap.lt_size hD); omega)
    have hl3 : ∃ o, h'.get? (K + 1) = some o := let ⟨_, e⟩ := hpl; ⟨_, e⟩
    have hlen : items.length = vs.size := by
      have := H5.length
      rw [Array.length_toList] at this
      exact this.symm
    clear F2 N2
    k_steps
    apply unhold
    refine new_array (X.keeps F3.keep) (T.keeps F3.keep) (by walk_at "my room") fun h4 tk4 a4 dx4 ⟨k4, lo4, g1, g2⟩ => ?_
    have k04 : s.heap.StaysIn h4 := stays_trans F3.keep k4
    refine hQ h4 tk4 (.ref a4) (dx4 :: D' :: (K + 1) :: S') k04 ⟨a4, dx4, D', K + 1, ys, S', rfl, rfl, g1, g2, ⟨bv, ⟨c', k4 _ _ (N3 _ (.head _)).1⟩, B2.keep fun b o e _ => k04 b o e⟩, hpl.at fun o e => k4 _ _ e, ?_, hb, hsz⟩ ?_ ?_
    · have q := r.stays k4
      rwa [← hlen, List.take_length] at q
    · intro x hx'
      simp only [List.mem_cons] at hx'
      rcases hx' with rfl | rfl | rfl | hx'
      · exact stays_none F3.keep lo4
      · exact hDf
      · exact hK0
      · exact stays_none hk2 (hx x hx').1
    · refine List.nodup_cons.mpr ⟨fun hm => ?_, List.nodup_cons.mpr ⟨fun hm => ?_, List.nodup_cons.mpr ⟨fun hm => (hx _ hm).2.2.1 rfl, nd⟩⟩⟩
      · simp only [List.mem_cons] at hm
        rcases hm with rfl | rfl | hm
        · exact fresh_ne (N3 _ (.head _)).1 lo4 rfl
        · obtain ⟨o, e⟩ := hl3
          exact fresh_ne e lo4 rfl
        · obtain ⟨o, e⟩ := hx3 _ hm
          exact fresh_ne e lo4 rfl
      · simp only [List.mem_cons] at hm
        rcases hm with e | hm
        · exact hDK e
        · exact fresh_ne hD (hx _ hm).1 rfl
end
/-- the fields that were copied; d1: the new dict, K: the iterator -/
inductive CopyI (base : Heap) (L a d1 K : Addr) (w : World) (Z : Addr → Prop) (n : Nat) (fs : List (Str × D)) (i : Nat) (h : Heap) : Prop
  | mk (u : Option Value) (o' : Obj) (kvs' : List (Str × Value)) (S' : List Addr) (F : Fr base L h (fun y => if y = Str.ofString "name" then u else if y = Str.ofString "fields" then some (.ref d1) else List.lookup y [(Str.ofString "value", Value.ref a)].reverse)) (N : News base L h [(d1, o')]) (ho : o'.IsDictOf (PySem.strKind PySem.Challenge.rw_xw0007_01.prog w) kvs')
    (hk : kvs'.map (·.1) = (fs.take i).map (·.1)) (r : LiesL (Lies PySem.Challenge.rw_xw0007_01.prog w h Z n) S' (kvs'.map (·.2)) ((fs.take i).map (·.2))) (nd : S'.Nodup) (hx : ∀ x ∈ S', base.get? x = none ∧ x ≠ d1 ∧ x ≠ K ∧ x ≠ L) : CopyI base L a d1 K w Z n fs i h
section
variable {w : World} {dp un : Nat} {fr : Option (List Env)} {gd : Option (List Code)} {E : Value → Shared → Prop} {s : Shared} {Q : Value → Shared → Prop} {mean : ExcName → Option Value} {mg mb : Str → Option Value}

theorem copy_rec {n : Nat} {Z : Addr → Prop} {fs : List (Str × D)} {num : Int} {S : List Addr} (ih : CopyOk w n) (X : (hd.heap_39 w.params).In s.heap) (T : Top hd.view_39 (looseW hd.view_39 []) mean mg mb s.heap) (hdep : dp + n + 4 < recursionLimit) (hu : un + 6 * n + 26 < cLine) (hz : (∀ x, Z x → ∃ o, s.heap.get? x = some o))
    {a dx fd ty tdx : Addr} {tn : Tok} {kvs : List (Str × Value)} (H : Has s.heap a dx 152 (Str.ofString "type") (.ref ty)) (H2 : Has s.heap a dx 152 (Str.ofString "fields") (.ref fd))
    (H3 : Has s.heap ty tdx 229 (Str.ofString "number") (.int num tn)) (hZ : Z tdx) (H4 : s.heap.DictOf (PySem.strKind PySem.Challenge.rw_xw0007_01.prog w) fd kvs) (hks : kvs.map (·.1) = fs.map (·.1))
    (H5 : LiesL (Lies PySem.Challenge.rw_xw0007_01.prog w s.heap Z n) S (kvs.map (·.2)) (fs.map (·.2))) (hsz : fs.length ≤ 20) (hsys : (fd == sysModules) = false) (hok : (fs.map (·.1)).all PyData.strOk = true)
    (hQ : ∀ h' tk v' S', s.heap.StaysIn h' → Lies PySem.Challenge.rw_xw0007_01.prog w h' Z (n + 1) S' v' (.recd num fs) → (∀ x ∈ S', s.heap.get? x = none) → S'.Nodup → Q v' { s with heap := h', toks := tk }) :
    wpAny (model PySem.Challenge.rw_xw0007_01.prog w) (Ar dp un fr gd) (call (.ref 168) [.ref a]) Q E s := by
  refine' enter [(Str.ofString "value", .ref a)] X T.nolimit (by omega) ?ho ?hcd ?hb ?hl ?hc ?h1 ?h2 ?h3 ?_
  case ho => k_is
  case hcd => k_is
  case hb => exact BindsTo.of_eq rfl
  case hl => exact locs rfl
  case hc => decide
  case h1 => rfl
  case h2 => rfl
  case h3 => rfl
  intro L h₁ hL F N
  k_fold
  k_steps
  apply unhold
  refine' for_dict ?hh ?h ?hs
  case hh => rfl
  case hs => intro x; rfl
  k_steps
  with_reducible rename Fr _ _ _ _ => F2
  with_reducible rename News _ _ _ _ => N2
  rename_i d1 hA o1 lo1 hs1 fs1 hi1 fi1 l1 h2
  have X2 := X.keeps F2.keep
  have T2 := T.keeps F2.keep
  have hnd : (kvs.map (·.1)).Nodup := let ⟨_, _, _, _, _, _, _, _, q⟩ := H4; q
  refine ⟨fd, kvs, rfl, hsys, H4.keep F2.keep, fun hh K e hK => ?_⟩
  obtain rfl : h2 = hh := e
  refine ⟨CopyI s.heap L a d1 K w Z n fs, ?_, ?_, ?_, ?_⟩
  · exact ⟨_, o1, [], [], fr_first F2, N2, hs1, rfl, rfl, List.nodup_nil, fun _ hb => absurd hb List.not_mem_nil⟩
  · rintro i h h' ⟨m, o', kvs', S', F', N', ho', hk', r, nd, hx⟩ hk
    have hKL : L ≠ K := neN (by have := ltN F2.ns.lt; omega)
    have hK0 : s.heap.get? K = none := stays_none F2.keep (by rw [hK]; exact Heap.get?_none_of_le (Nat.le_refl _))
    have hdK : d1 ≠ K := neN (by have := ltN (Heap.lt_size (N2 _ (.head _)).1); omega)
    refine ⟨m, o', kvs', S', fr_at F' (fun b o hb e => hk b o e (.inr hb)) hKL hK0, news_at N' (fun b o hb e => hk b o e (.inr hb)) (by intro p hp; rw [List.mem_singleton.mp hp]; exact hdK), ho', hk', r.mono fun S1 v d hS _ y => y.move (fun _ q => q) fun b o e hb => hk b o e ?_, nd, hx⟩
    rcases hb with hb | hb | hb
    · exact .inr (hx b (hS b hb)).2.2.1
    · obtain ⟨o', hb⟩ := hz b hb
      exact .inr (fresh_ne hb hK0)
    · exact .inl hb
  · intro i k v t h3 tk3 oI hkv hoI hoIs HI
    k_fold
    obtain ⟨m, o', kvs', S', F', N', ho', hk', r, nd, hx⟩ := HI
    have hKL : K ≠ L := (neN (by have := ltN F2.ns.lt; omega)).symm
    have hK0 : s.heap.get? K = none := stays_none F2.keep (by rw [hK]; exact Heap.get?_none_of_le (Nat.le_refl _))
    have hdK : d1 ≠ K := neN (by have := ltN (Heap.lt_size (N2 _ (.head _)).1); omega)
    obtain ⟨gl, Ng, hgn, hgk⟩ := snap F' (news_with N' hoI hKL hK0)
    have hva := valueAt_get hnd hkv
    have hk03 := F'.keep
    have hL3 := F'.ns
    have hd13 := (N' _ (.head _)).1
    have hd10 := (N' _ (.head _)).2.2
    have hd1L := (N' _ (.head _)).2.1
    clear N' F2 N2
    obtain ⟨S1, d, hd, hlie⟩ := H5.at (i := i) (v := v) (by rw [List.getElem?_map, hkv]; rfl)
    k_steps
    apply unhold
    with_reducible rename Fr _ _ _ _ => F3
    with_reducible rename News _ _ _ _ => N3
    have F4 := fr_again F3
    rename_i h4
    refine ih (X.keeps F3.keep) (T.keeps F3.keep) (by walk_at "my room") (by walk_at "my room") (fun x q => let ⟨o, e⟩ := hz x q; ⟨o, F3.keep _ _ e⟩) (hlie.stays F3.keep) fun h5 tk5 v5 S5 hk5 l5 hx5 nd5 => ?_
    have hk34 := hgk h4 _ F4 fun p hp => N3 p (by simp [hp])
    have hL4 := F4.ns
    have hd14 := (N3 (d1, o') (by simp)).1
    have hK4 := (N3 (K, oI) (by simp)).1
    have hk04 := F4.keep
    have F5 := Fr.keeps F4 hk5
    have N5 := News.grown N3 hk5
    clear F3 F4 N3
    k_steps
    have hkf : (fs.map (·.1))[i]? = some k := by rw [← hks, List.getElem?_map, hkv]; rfl
    have hfi : fs[i]? = some (k, d) := by
      rw [List.getElem?_map] at hkf hd
      cases q : fs[i]? with
      | none => rw [q] at hd; cases hd
      | some x => rw [q] at hd hkf; obtain ⟨x1, x2⟩ := x; cases hd; cases hkf; rfl
    have hkn : k ∉ kvs'.map (·.1) := by
      rw [hk']
      exact key_not_before (by rw [← hks]; exact hnd) hfi
    have hlen : kvs'.length ≤ sizeLine := by
      have e1 := congrArg List.length hk'
      rw [List.length_map, List.length_map, List.length_take] at e1
      rw [sizeLine]; omega
    refine wpAny_setItem_pairs (knd := PySem.strKind PySem.Challenge.rw_xw0007_01.prog w) (k := k) (kvs := kvs') (by simp [PySem.strKind, Value.isStrOf]) (Heap.dictOf_iff.mpr ⟨o', (N5 (d1, o') (by simp)).1, ho'⟩) (fun h6 hd6 hs6 => ?_) hlen
    rw [stored_new hkn] at hd6
    obtain ⟨o6, hg6, ho6⟩ := Heap.dictOf_iff.mp hd6
    have hns1 : ¬ Soft o' := by
      obtain ⟨es, ep, _, hd', _⟩ := ho'
      exact not_soft_dict hd'
    have F6 := fr_change F5 hs6 hd1L hd10
    have N6 := news_change (pre := [(K, oI)]) (post := gl) N5 hs6 hg6 (by intro p hp; rw [List.mem_singleton.mp hp]; exact hdK.symm) (fun p hp => hgn p hp (d1, o') (by simp))
    have hk36 := hgk h6 _ F6 fun p hp => N6 p (by simp [hp])
    refine wpAny_execs_nil (unhold ⟨h6, _, rfl, (N6 (K, oI) (by simp)).1, fun o e => ?_, _, o6, kvs' ++ [(k, v5)], S' ++ S5, F6, fun p hp => N6 p (by rw [List.mem_singleton.mp hp]; simp), ho6, ?_, ?_, ?_, ?_⟩)
    · obtain ⟨o0, _, _, q, _⟩ := H4
      have := hk03 _ _ q
      rw [e] at this; cases this
      exact F6.keep _ _ q
    · rw [take_snoc hfi, List.map_append, List.map_append, hk']; rfl
    · rw [take_snoc hfi, List.map_append, List.map_append]
      refine LiesL.snoc ?_ ?_
      · refine r.mono fun T1 v' d' hT _ y => y.move (fun _ q => q) fun b o e hb => ?_
        rcases hb with hb | hb | hb
        · have q := hx b (hT b hb)
          exact hk36 b o e q.2.2.2 (by intro p hp; rcases List.mem_cons.mp hp with rfl | hp; exact q.2.2.1.symm; rw [List.mem_singleton.mp hp]; exact q.2.1.symm)
        · obtain ⟨o0, q⟩ := hz b hb
          have := hk03 _ _ q
          rw [e] at this; cases this
          exact F6.keep _ _ q
        · refine hk36 b o e (fun z => not_soft_ns hL3 (z ▸ e) hb) ?_
          intro p hp z
          rcases List.mem_cons.mp hp with rfl | hp
          · rw [← z, hoI] at e; cases e; exact hoIs hb
          · rw [List.mem_singleton.mp hp] at z
            rw [← z, hd13] at e; cases e; exact hns1 hb
      · refine l5.move (fun _ q => q) fun b o e hb => ?_
        refine hs6.extBut b o ?_ e
        rcases hb with hb | hb | hb
        · exact (fresh_ne hd14 (hx5 b hb)).symm
        · obtain ⟨o0, q⟩ := hz b hb
          exact fresh_ne q hd10
        · intro z
          have := (N5 (d1, o') (by simp)).1
          rw [z] at e
          rw [this] at e; cases e; exact hns1 hb
    · refine List.nodup_append.mpr ⟨nd, nd5, fun x h1 y h2 => ?_⟩
      have q := hx x h1
      obtain ⟨o0, e⟩ := r.liveAll (fun _ _ _ q => q.live) x h1
      have e4 := hk34 x o0 e q.2.2.2 (by intro p hp; rcases List.mem_cons.mp hp with rfl | hp; exact q.2.2.1.symm; rw [List.mem_singleton.mp hp]; exact q.2.1.symm)
      exact fresh_ne e4 (hx5 y h2)
    · intro x hx'
      rcases List.mem_append.mp hx' with q | q
      · exact hx x q
      · have q5 := hx5 x q
        obtain ⟨oL, _, _, eL, _⟩ := hL4
        exact ⟨stays_none hk04 q5, (fresh_ne hd14 q5).symm, (fresh_ne hK4 q5).symm, (fresh_ne eL q5).symm⟩
  · rintro h' tk' ⟨u, o', kvs', S', F', N', ho', hk', r, nd, hx⟩
    have hkl : kvs.length = fs.length := by have := congrArg List.length hks; simpa using this
    rw [hkl, List.take_length] at hk' r
    have hd1 := (N' (d1, o') (.head _)).1
    have hd10 := (N' (d1, o') (.head _)).2.2
    k_steps
    apply unhold
    refine new_record (X.keeps F'.keep) (T.keeps F'.keep) (by walk_at "my room") fun h4 tk4 a4 dx4 ⟨k4, lo4, g1, g2⟩ => ?_
    have k04 : s.heap.StaysIn h4 := stays_trans F'.keep k4
    refine hQ h4 tk4 (.ref a4) (dx4 :: d1 :: S') k04 ⟨a4, dx4, d1, ty, tdx, tn, kvs', S', rfl, rfl, g1, g2, H3.stays k04, hZ, Heap.dictOf_iff.mpr ⟨o', k4 _ _ hd1, ho'⟩, hk', r.stays k4, hsz, lo1, hok⟩ ?_ ?_
    · intro x hx'
      simp only [List.mem_cons] at hx'
      rcases hx' with rfl | rfl | hx'
      · exact stays_none F'.keep lo4
      · exact hd10
      · exact (hx x hx').1
    · refine List.nodup_cons.mpr ⟨fun hm => ?_, List.nodup_cons.mpr ⟨fun hm => (hx _ hm).2.1 rfl, nd⟩⟩
      rcases List.mem_cons.mp hm with rfl | hm
      · exact fresh_ne hd1 lo4 rfl
      · obtain ⟨o, e⟩ := r.liveAll (fun _ _ _ q => q.live) _ hm
        exact fresh_ne e lo4 rfl

theorem copy_ok : ∀ n, CopyOk w n := by
  intro n
  induction n with
  | zero =>
    intro mean mg mb dp un fr gd E s Q Z S v d X T hdep hu hz hl hQ
    cases d with
    | int i =>
      obtain ⟨rfl, t, rfl⟩ := hl
      exact copy_int X T (by omega) fun h' tk k => hQ h' tk _ [] k ⟨rfl, t, rfl⟩ (fun _ hb => absurd hb List.not_mem_nil) List.nodup_nil
    | none =>
      obtain ⟨rfl, rfl⟩ := hl
      exact copy_none X T (by omega) fun h' tk k => hQ h' tk _ [] k ⟨rfl, rfl⟩ (fun _ hb => absurd hb List.not_mem_nil) List.nodup_nil
    | cell c =>
      obtain ⟨rfl, a, dx, tk, rfl, H, hZ⟩ := hl
      exact copy_cell X T (by omega) H fun h' tk' k => hQ h' tk' _ [] k ⟨rfl, a, dx, tk, rfl, H.stays k, hZ⟩ (fun _ hb => absurd hb List.not_mem_nil) List.nodup_nil
    | _ => exact hl.elim
  | succ n ih =>
    intro mean mg mb dp un fr gd E s Q Z S v d X T hdep hu hz hl hQ
    cases d with
    | int i =>
      obtain ⟨rfl, t, rfl⟩ := hl
      exact copy_int X T (by omega) fun h' tk k => hQ h' tk _ [] k ⟨rfl, t, rfl⟩ (fun _ hb => absurd hb List.not_mem_nil) List.nodup_nil
    | none =>
      obtain ⟨rfl, rfl⟩ := hl
      exact copy_none X T (by omega) fun h' tk k => hQ h' tk _ [] k ⟨rfl, rfl⟩ (fun _ hb => absurd hb List.not_mem_nil) List.nodup_nil
    | cell c =>
      obtain ⟨rfl, a, dx, tk, rfl, H, hZ⟩ := hl
      exact copy_cell X T (by omega) H fun h' tk' k => hQ h' tk' _ [] k ⟨rfl, a, dx, tk, rfl, H.stays k, hZ⟩ (fun _ hb => absurd hb List.not_mem_nil) List.nodup_nil
    | arr bs items =>
      obtain ⟨a, dx, b, l, vs, S', rfl, rfl, g1, g2, pa, pl, r, s1, s2⟩ := hl
      exact copy_arr ih X T (by omega) (by omega) hz g1 g2 pa pl r s1 s2 hQ
    | recd num fs =>
      obtain ⟨a, dx, fd, ty, tdx, tk, kvs, S', rfl, rfl, g1, g2, g3, hZ, hd, hks, r, s1, s2, s3⟩ := hl
      exact copy_rec ih X T (by omega) (by omega) hz g1 g2 g3 hZ hd hks r s1 s2 s3 hQ
end
/-! sorted over a dict's keys; the data that _law_seen tells -/
def leS (a b : Str) : Prop := PySem.Spec.ltCps b.cps.toList a.cps.toList = false
theorem leS_iff {a b : Str} : leS a b ↔ ¬ b.cps.toList < a.cps.toList := by
  unfold leS
  rw [ltCps_eq]
  simp
theorem leS_trans {a b c : Str} (h1 : leS a b) (h2 : leS b c) : leS a c := by
  rw [leS_iff, List.not_lt] at *
  exact List.le_trans h1 h2
theorem leS_antisymm {a b : Str} (h1 : leS a b) (h2 : leS b a) : a = b := by
  rw [leS_iff, List.not_lt] at *
  have e : a.cps.toList = b.cps.toList := List.le_antisymm h1 h2
  obtain ⟨x⟩ := a
  obtain ⟨y⟩ := b
  have : x = y := Array.ext' e
  rw [this]
theorem rising_pairwise : ∀ {l : List Str} {x : Str}, risingS x l = true → (x :: l).Pairwise leS
  | [], x, _ => List.pairwise_singleton _ _
  | y :: r, x, h => by
    have h' : (!PySem.Spec.ltCps y.cps.toList x.cps.toList && risingS y r) = true := h
    rw [Bool.and_eq_true] at h'
    have q : leS x y := by simpa [leS] using h'.1
    have ih := rising_pairwise h'.2
    refine List.pairwise_cons.mpr ⟨fun z hz => ?_, ih⟩
    rcases List.mem_cons.mp hz with rfl | hz
    · exact q
    · exact leS_trans q ((List.pairwise_cons.mp ih).1 z hz)
theorem sortedS_pairwise : ∀ {l : List Str}, sortedS l = true → l.Pairwise leS
  | [], _ => List.Pairwise.nil
  | _ :: _, h => rising_pairwise h
theorem sorted_unique {l l' : List Str} (h : sortedS l = true) (h' : sortedS l' = true) (p : l.Perm l') : l = l' :=
  List.Perm.eq_of_pairwise (fun _ _ _ _ a b => leS_antisymm a b) (sortedS_pairwise h) (sortedS_pairwise h') p

section
variable {prog : Program} {w : World} {A : Around} {E : Value → Shared → Prop} {s : Shared} {h₀ : Heap} {L d : Addr} {m : Str → Option Value} {news : List (Addr × Obj)} {Q : Value → Shared → Prop}
theorem strsAre_of : ∀ {vs : List Value} {ss : List Str}, vs.length = ss.length → (∀ (j : Nat) (v : Value), vs[j]? = some v → ∃ k, ss[j]? = some k ∧ Value.isStrOf k v = true) → StrsAre vs ss
  | [], [], _, _ => .nil
  | [], _ :: _, e, _ => by simp at e
  | _ :: _, [], e, _ => by simp at e
  | v :: vs, k :: ss, e, h => by
    obtain ⟨k', e1, e2⟩ := h 0 v (by simp)
    simp at e1; subst e1
    obtain ⟨t, rfl⟩ := Value.isStrOf_shape e2
    exact .cons k t (strsAre_of (by simpa using e) fun j u hu => by simpa using h (j + 1) u (by simpa using hu))
/-- sorted over a dict keyed by strs -/
theorem sorted_dict {kvs : List (Str × Value)} (hh : A.handled = none) (F : Fr h₀ L s.heap m) (N : News h₀ L s.heap news) (hd : s.heap.DictOf (PySem.strKind prog w) d kvs) (hds : (d == sysModules) = false) (hlen : kvs.length < 64)
    (h : ∀ B h' tk vs' ss' n, Fr h₀ L h' m → News h₀ L h' ((B, W.listOf vs'.toArray n) :: news) → StrsAre vs' ss' → ss'.Perm (kvs.map (·.1)) → sortedS ss' = true → Q (.ref B) { s with heap := h', toks := tk }) :
    wpAny (model prog w) A (call (.builtin "sorted") [.ref d]) Q E s := by
  obtain ⟨ep, hat⟩ := hd.dictAt
  refine kdu_sorted (kdl_dict (knd := PySem.strKind prog w) (kvs := kvs) (ep := ep) hds) hh F N hat (by rw [sizeLine]; omega) fun B h' tk vs F' N' l1 hl hv => ?_
  have hS : StrsAre vs (kvs.map (·.1)) := strsAre_of (by rw [hl, List.length_map]) fun j v hj => by
    obtain ⟨k, x, hx, hk⟩ := hv j v hj
    exact ⟨k, by rw [List.getElem?_map, hx]; rfl, hk⟩
  have hB := (N' _ (.head _)).1
  refine wpAny_call_entry slot_list_sort ⟨_, hB, rfl⟩ entry_list_sort (list_sort_treeK (κ := strKind) strKind_oneLt hB hS.keysOf (fun v₁ v₂ rest e => keyKind_strs (by rw [← e]; exact hS)) (by omega) fun st' hp hs => ⟨_, rfl, ?_⟩) (args_list_sort _)
  obtain ⟨ss', h1, h2, h3⟩ := sorted_out_str hS hp hs
  obtain ⟨e, he⟩ := sortedHeap_at (out := ((arrOf st').map (·.2))) hB
  have old : ∀ b o, b ≠ B → h'.get? b = some o → (sortedHeap h' B vs ((arrOf st').map (·.2))).get? b = some o := fun b o hb q => by rw [sortedHeap_old hb (Heap.lt_size q)]; exact q
  have hBL : B ≠ L := (N' _ (.head _)).2.1
  have hB0 : h₀.get? B = none := (N' _ (.head _)).2.2
  refine h B _ _ ((arrOf st').map (·.2)).toList ss' e (fr_at F' old (Ne.symm hBL) hB0) ?_ h1 h2 h3
  intro p hp'
  rcases List.mem_cons.mp hp' with rfl | hp'
  · exact ⟨by rw [he], hBL, hB0⟩
  · have q := N' p (List.mem_cons_of_mem _ hp')
    exact ⟨old _ _ (Nat.ne_of_lt (l1 p hp')) q.1, q.2⟩
end

def pairD (b : Int × Int) : PyData := .tuple [.int b.1, .int b.2]
def ListR {α β : Type} (P : α → β → Prop) : List α → List β → Prop
  | [], [] => True
  | a :: as, b :: bs => P a b ∧ ListR P as bs
  | _, _ => False
theorem ListR.unique {α β : Type} {P : α → β → Prop} : ∀ {l : List α} {p q : List β}, (∀ a x y, a ∈ l → P a x → P a y → x = y) → ListR P l p → ListR P l q → p = q
  | [], [], [], _, _, _ => rfl
  | a :: l, x :: p, y :: q, h, ⟨h1, h2⟩, ⟨h3, h4⟩ => by rw [h a x y (.head _) h1 h3, ListR.unique (fun b u v hb => h b u v (.tail _ hb)) h2 h4]
theorem ListR.snoc {α β : Type} {P : α → β → Prop} : ∀ {l : List α} {p : List β} {a : α} {b : β}, ListR P l p → P a b → ListR P (l ++ [a]) (p ++ [b])
  | [], [], _, _, _, h => ⟨h, trivial⟩
  | _ :: _, _ :: _, _, _, ⟨h1, h2⟩, h => ⟨h1, h2.snoc h⟩
theorem ListR.right {α β : Type} {P : α → β → Prop} : ∀ {l : List α} {p : List β}, ListR P l p → ∀ b ∈ p, ∃ a ∈ l, P a b
  | [], [], _, b, hb => by simp at hb
  | a :: l, x :: p, ⟨h1, h2⟩, b, hb => by
    rcases List.mem_cons.mp hb with rfl | hb
    · exact ⟨a, .head _, h1⟩
    · obtain ⟨a', m', q⟩ := h2.right b hb
      exact ⟨a', .tail _ m', q⟩

/-- what _law_seen gives of a datum -/
def SeenR : Nat → D → PyData → Prop
  | _, .int i, p => p = .int i
  | _, .none, p => p = .none
  | _, .cell k, p => p = .tuple [.str (Str.ofString "cell"), .int k]
  | 0, _, _ => False
  | n + 1, .arr bs items, p => ∃ ps, ListR (SeenR n) items ps ∧ p = .tuple [.str (Str.ofString "array"), .list (bs.map pairD), .list ps]
  | n + 1, .recd num fs, p => ∃ ss ps, ss.Perm (fs.map (·.1)) ∧ sortedS ss = true ∧ (fs.map (·.1)).Nodup ∧ (∀ k ∈ ss, PyData.strOk k = true) ∧ ListR (fun k q => ∃ d r, (k, d) ∈ fs ∧ SeenR n d r ∧ q = .tuple [.str k, r]) ss ps ∧
      p = .tuple [.str (Str.ofString "record"), .int num, .list ps]
theorem mem_key {α β : Type} : ∀ {l : List (α × β)} {k : α} {d d' : β}, (l.map (·.1)).Nodup → (k, d) ∈ l → (k, d') ∈ l → d = d'
  | [], _, _, _, _, h, _ => by simp at h
  | (k0, d0) :: l, k, d, d', nd, h, h' => by
    rw [List.map_cons, List.nodup_cons] at nd
    rcases List.mem_cons.mp h with e | h <;> rcases List.mem_cons.mp h' with e' | h'
    · cases e; cases e'; rfl
    · cases e; exact absurd (List.mem_map_of_mem (f := (·.1)) h') nd.1
    · cases e'; exact absurd (List.mem_map_of_mem (f := (·.1)) h) nd.1
    · exact mem_key nd.2 h h'
theorem SeenR.unique : ∀ {n : Nat} {d : D} {p q : PyData}, SeenR n d p → SeenR n d q → p = q := by
  intro n
  induction n with
  | zero =>
    intro d p q h1 h2
    cases d with
    | int i => exact Eq.trans h1 (Eq.symm h2)
    | none => exact Eq.trans h1 (Eq.symm h2)
    | cell k => exact Eq.trans h1 (Eq.symm h2)
    | _ => exact h1.elim
  | succ n ih =>
    intro d p q h1 h2
    cases d with
    | int i => exact Eq.trans h1 (Eq.symm h2)
    | none => exact Eq.trans h1 (Eq.symm h2)
    | cell k => exact Eq.trans h1 (Eq.symm h2)
    | arr bs items =>
      obtain ⟨ps, r1, rfl⟩ := h1
      obtain ⟨qs, r2, rfl⟩ := h2
      rw [ListR.unique (P := SeenR n) (fun a x y _ h1 h2 => ih h1 h2) r1 r2]
    | recd num fs =>
      obtain ⟨ss, ps, a1, a2, a3, a4, a5, rfl⟩ := h1
      obtain ⟨ss', qs, b1, b2, b3, b4, b5, rfl⟩ := h2
      obtain rfl := sorted_unique a2 b2 (a1.trans b1.symm)
      rw [ListR.unique (fun k x y _ ⟨d, r, m1, s1, e1⟩ ⟨d', r', m2, s2, e2⟩ => by
        obtain rfl := mem_key a3 m1 m2
        rw [e1, e2, ih s1 s2]) a5 b5]
theorem canLayAll_of : ∀ {l : List PyData}, (∀ p ∈ l, p.canLay0 = true) → PyData.canLayAll0 l = true
  | [], _ => rfl
  | p :: l, h => by
    show (p.canLay0 && PyData.canLayAll0 l) = true
    rw [h p (.head _), canLayAll_of fun q hq => h q (.tail _ hq)]; rfl
theorem depthAll_of : ∀ {l : List PyData} {n : Nat}, (∀ p ∈ l, p.depth ≤ n) → PyData.depthAll l ≤ n
  | [], n, _ => by simp [PyData.depthAll]
  | p :: l, n, h => by
    have h1 := h p (.head _)
    have h2 := depthAll_of (l := l) fun q hq => h q (.tail _ hq)
    simp only [PyData.depthAll]
    omega
theorem pairD_lay (b : Int × Int) : (pairD b).canLay0 = true ∧ (pairD b).depth ≤ 2 := by
  constructor
  · rfl
  · simp [pairD, PyData.depth, PyData.depthAll]
theorem cell_lay (k : Int) : (PyData.tuple [.str (Str.ofString "cell"), .int k]).canLay0 = true := by
  have e : PyData.canLay0 (.str (Str.ofString "cell")) = true := by decide +kernel
  simp only [PyData.canLay0, PyData.canLayAll0] at e ⊢
  simp [e]
theorem SeenR.lay : ∀ {n : Nat} {d : D} {p : PyData}, SeenR n d p → p.canLay0 = true ∧ p.depth ≤ 3 * n + 4 := by
  intro n
  induction n with
  | zero =>
    intro d p h
    cases d with
    | int i => rw [show p = .int i from h]; exact ⟨rfl, by simp [PyData.depth]⟩
    | none => rw [show p = .none from h]; exact ⟨rfl, by simp [PyData.depth]⟩
    | cell k => rw [show p = .tuple [.str (Str.ofString "cell"), .int k] from h]; exact ⟨cell_lay k, by simp [PyData.depth, PyData.depthAll]⟩
    | _ => exact h.elim
  | succ n ih =>
    intro d p h
    cases d with
    | int i => rw [show p = .int i from h]; exact ⟨rfl, by simp [PyData.depth]⟩
    | none => rw [show p = .none from h]; exact ⟨rfl, by simp [PyData.depth]⟩
    | cell k => rw [show p = .tuple [.str (Str.ofString "cell"), .int k] from h]; exact ⟨cell_lay k, by simp [PyData.depth, PyData.depthAll]⟩
    | arr bs items =>
      obtain ⟨ps, r, rfl⟩ := h
      have c1 : PyData.canLayAll0 (bs.map pairD) = true := canLayAll_of fun q hq => by obtain ⟨b, _, rfl⟩ := List.mem_map.mp hq; exact (pairD_lay b).1
      have c2 : PyData.canLayAll0 ps = true := canLayAll_of fun q hq => by obtain ⟨d, _, y⟩ := r.right q hq; exact (ih y).1
      have d1 : PyData.depthAll (bs.map pairD) ≤ 2 := depthAll_of fun q hq => by obtain ⟨b, _, rfl⟩ := List.mem_map.mp hq; exact (pairD_lay b).2
      have d2 : PyData.depthAll ps ≤ 3 * n + 4 := depthAll_of fun q hq => by obtain ⟨d, _, y⟩ := r.right q hq; exact (ih y).2
      constructor
      · have e : PyData.canLay0 (.str (Str.ofString "array")) = true := by decide +kernel
        simp only [PyData.canLay0, PyData.canLayAll0, c1, c2] at e ⊢
        simp [e]
      · simp only [PyData.depth, PyData.depthAll]
        omega
    | recd num fs =>
      obtain ⟨ss, ps, a1, a2, a3, a4, r, rfl⟩ := h
      have c2 : PyData.canLayAll0 ps = true := canLayAll_of fun q hq => by
        obtain ⟨k, hk, d, x, _, y, rfl⟩ := r.right q hq
        have e1 := a4 k hk
        have e2 := (ih y).1
        simp only [PyData.canLay0, PyData.canLayAll0, e1, e2]; rfl
      have d2 : PyData.depthAll ps ≤ 3 * n + 5 := depthAll_of fun q hq => by
        obtain ⟨k, hk, d, x, _, y, rfl⟩ := r.right q hq
        have e2 := (ih y).2
        simp only [PyData.depth, PyData.depthAll]; omega
      constructor
      · have e : PyData.canLay0 (.str (Str.ofString "record")) = true := by decide +kernel
        simp only [PyData.canLay0, PyData.canLayAll0, c2] at e ⊢
        simp [e]
      · simp only [PyData.depth, PyData.depthAll]
        omega

mutual
theorem reads_move {h h' : Heap} : ∀ {v : Value} {d : PyData} {as : List Addr}, Reads h v d as → (∀ b o, h.get? b = some o → (b ∈ as ∨ Soft o) → h'.get? b = some o) → Reads h' v d as
  | _, _, _, .none, _ => .none
  | _, _, _, .bool b, _ => .bool b
  | _, _, _, .int i t, _ => .int i t
  | _, _, _, .str x t, _ => .str x t
  | _, _, _, .list e c dd r, k => .list (k _ _ e (.inl (.head _))) c dd (readsAll_move r fun b o q hb => k b o q (hb.imp (.tail _) id))
  | _, _, _, .tuple e c dd r, k => .tuple (k _ _ e (.inr (.inr ⟨c, _, _, dd⟩))) c dd (readsAll_move r fun b o q hb => k b o q hb)
  | _, _, _, .dict e c dd r1 r2, k => .dict (k _ _ e (.inl (by simp))) c dd (readsAll_move r1 fun b o q hb => k b o q (hb.imp (fun m => by simp [m]) id)) (readsAll_move r2 fun b o q hb => k b o q (hb.imp (fun m => by simp [m]) id))
theorem readsAll_move {h h' : Heap} : ∀ {vs : List Value} {ds : List PyData} {as : List Addr}, ReadsAll h vs ds as → (∀ b o, h.get? b = some o → (b ∈ as ∨ Soft o) → h'.get? b = some o) → ReadsAll h' vs ds as
  | _, _, _, .nil, _ => .nil
  | _, _, _, .cons a r, k => .cons (reads_move a fun b o q hb => k b o q (hb.imp (fun m => by simp [m]) id)) (readsAll_move r fun b o q hb => k b o q (hb.imp (fun m => by simp [m]) id))
end
theorem readsAll_snoc {h : Heap} : ∀ {vs : List Value} {ds : List PyData} {as : List Addr} {v : Value} {d : PyData} {bs : List Addr}, ReadsAll h vs ds as → Reads h v d bs → ReadsAll h (vs ++ [v]) (ds ++ [d]) (as ++ bs)
  | _, _, _, _, _, _, .nil, x => by simpa using ReadsAll.cons x .nil
  | _, _, _, _, _, _, .cons a r, x => by
    have := ReadsAll.cons a (readsAll_snoc r x)
    simpa [List.append_assoc] using this
theorem readsAll_pairs {h : Heap} : ∀ {vs : List Value} {bs : List (Int × Int)}, PairL h vs bs → ReadsAll h vs (bs.map pairD) []
  | [], [], _ => .nil
  | _ :: _, b :: _, ⟨⟨p, t1, t2, n, e, x⟩, r⟩ => by
    subst e
    have h1 : Reads h (.ref p) (pairD b) [] := .tuple x rfl rfl (by simpa using ReadsAll.cons (.int b.1 t1) (ReadsAll.cons (.int b.2 t2) .nil))
    simpa using ReadsAll.cons h1 (readsAll_pairs r)
theorem reads_stays {h h' : Heap} {v : Value} {d : PyData} {as : List Addr} (x : Reads h v d as) (k : h.StaysIn h') : Reads h' v d as := reads_move x fun b o e _ => k b o e
theorem readsAll_stays {h h' : Heap} {vs : List Value} {ds : List PyData} {as : List Addr} (x : ReadsAll h vs ds as) (k : h.StaysIn h') : ReadsAll h' vs ds as := readsAll_move x fun b o e _ => k b o e
mutual
theorem reads_live {h : Heap} : ∀ {v : Value} {d : PyData} {as : List Addr}, Reads h v d as → ∀ x ∈ as, ∃ o, h.get? x = some o
  | _, _, _, .none, x, hx => by simp at hx
  | _, _, _, .bool b, x, hx => by simp at hx
  | _, _, _, .int i t, x, hx => by simp at hx
  | _, _, _, .str y t, x, hx => by simp at hx
  | _, _, _, .list e c dd r, x, hx => by
    rcases List.mem_cons.mp hx with rfl | hx
    · exact ⟨_, e⟩
    · exact readsAll_live r x hx
  | _, _, _, .tuple e c dd r, x, hx => readsAll_live r x hx
  | _, _, _, .dict e c dd r1 r2, x, hx => by
    simp only [List.cons_append, List.mem_cons, List.mem_append] at hx
    rcases hx with rfl | hx | hx
    · exact ⟨_, e⟩
    · exact readsAll_live r1 x hx
    · exact readsAll_live r2 x hx
theorem readsAll_live {h : Heap} : ∀ {vs : List Value} {ds : List PyData} {as : List Addr}, ReadsAll h vs ds as → ∀ x ∈ as, ∃ o, h.get? x = some o
  | _, _, _, .nil, x, hx => by simp at hx
  | _, _, _, .cons a r, x, hx => by
    rcases List.mem_append.mp hx with hx | hx
    · exact reads_live a x hx
    · exact readsAll_live r x hx
end

theorem strsAre_get : ∀ {vs : List Value} {ss : List Str}, StrsAre vs ss → ∀ {i : Nat} {v : Value}, vs[i]? = some v → ∃ k t, ss[i]? = some k ∧ v = .str k t
  | _, _, .nil, i, v, e => by simp at e
  | _, _, .cons y t r, 0, v, e => by simp at e; exact ⟨y, t, by simp, e.symm⟩
  | _, _, .cons y t r, i + 1, v, e => by simp at e; obtain ⟨k, t', a, b⟩ := strsAre_get r e; exact ⟨k, t', by simpa using a, b⟩
theorem strsAre_len : ∀ {vs : List Value} {ss : List Str}, StrsAre vs ss → vs.length = ss.length
  | _, _, .nil => rfl
  | _, _, .cons y t r => by simp [strsAre_len r]
local macro_rules | `(tactic| walk_at "call builtin:sorted") => `(tactic| (k_here; (with_reducible show wpAny _ _ (call (Value.builtin "sorted") [Value.ref _]) _ _ _); k_dflt (refine' sorted_dict ?hh ?F ?N ?d ?z ?l ?_; (case hh => rfl); (case F => k_asm); (case N => k_asm); (case d => exact Heap.DictOf.keep (by with_reducible assumption) (Fr.keep (by k_asm))); (case z => with_reducible assumption); (case l => with_reducible assumption); k_whole); intro B' h' tk' vs' ss' n' F' N' hS' hP' hO'))
/-- what was seen of the items, of the fields -/
inductive SeenI (n : Nat) (items : List D) (h2 : Heap) (K : Addr) (i : Nat) (ys : List Value) (h : Heap) : Prop
  | mk (ps : List PyData) (as : List Addr) (a : ReadsAll h ys ps as) (b : ListR (SeenR n) (items.take i) ps) (c : ∀ x ∈ as, h2.get? x = none ∧ x ≠ K ∧ x ≠ K + 1 ∧ x ≠ K + 2) : SeenI n items h2 K i ys h
inductive SeenF (n : Nat) (fs : List (Str × D)) (ss : List Str) (h2 : Heap) (K : Addr) (i : Nat) (ys : List Value) (h : Heap) : Prop
  | mk (ps : List PyData) (as : List Addr) (a : ReadsAll h ys ps as) (b : ListR (fun k q => ∃ d r, (k, d) ∈ fs ∧ SeenR n d r ∧ q = .tuple [.str k, r]) (ss.take i) ps) (c : ∀ x ∈ as, h2.get? x = none ∧ x ≠ K ∧ x ≠ K + 1 ∧ x ≠ K + 2) : SeenF n fs ss h2 K i ys h
def SeenOk (w : World) (n : Nat) : Prop := ∀ {mean : ExcName → Option Value} {mg mb : Str → Option Value} {dp un : Nat} {fr : Option (List Env)} {gd : Option (List Code)} {E : Value → Shared → Prop} {s : Shared} {Q : Value → Shared → Prop} {Z : Addr → Prop} {S : List Addr} {v : Value} {d : D},
  (hd.heap_39 w.params).In s.heap → Top hd.view_39 (looseW hd.view_39 []) mean mg mb s.heap → dp + n + 4 < recursionLimit → un + 6 * n + 20 < cLine →
  Lies PySem.Challenge.rw_xw0007_01.prog w s.heap Z n S v d →
  (∀ h' tk v' p as, s.heap.StaysIn h' → Reads h' v' p as → (∀ x ∈ as, s.heap.get? x = none) → SeenR n d p → Q v' { s with heap := h', toks := tk }) →
  wpAny (model PySem.Challenge.rw_xw0007_01.prog w) (Ar dp un fr gd) (call (.ref 652) [v]) Q E s

section
variable {w : World} {dp un : Nat} {fr : Option (List Env)} {gd : Option (List Code)} {E : Value → Shared → Prop} {s : Shared} {Q : Value → Shared → Prop} {mean : ExcName → Option Value} {mg mb : Str → Option Value}

theorem seen_int (X : (hd.heap_39 w.params).In s.heap) (T : Top hd.view_39 (looseW hd.view_39 []) mean mg mb s.heap) (hdep : dp + 3 < recursionLimit) {i : Int} {t : Tok}
    (hQ : ∀ h' tk, s.heap.StaysIn h' → Q (.int i t) { s with heap := h', toks := tk }) :
    wpAny (model PySem.Challenge.rw_xw0007_01.prog w) (Ar dp un fr gd) (call (.ref 652) [.int i t]) Q E s := by
  refine' enterC [(Str.ofString "value", .int i t)] X T.nolimit (by omega) ?ho ?hcd ?hb ?hl ?hc ?h1 ?h2 ?h3 ?_
  case ho => k_is
  case hcd => k_is
  case hb => exact BindsTo.of_eq rfl
  case hl => exact rfl
  case hc => decide +kernel
  case h1 => rfl
  case h2 => rfl
  case h3 => rfl
  intro L h₁ tk cells' hL F N Y'
  k_cells Y'
  simp only [List.cons_append, List.nil_append, List.append_nil] at N
  k_steps
  exact hQ _ _ F.keep
theorem seen_none (X : (hd.heap_39 w.params).In s.heap) (T : Top hd.view_39 (looseW hd.view_39 []) mean mg mb s.heap) (hdep : dp + 3 < recursionLimit)
    (hQ : ∀ h' tk, s.heap.StaysIn h' → Q .none { s with heap := h', toks := tk }) :
    wpAny (model PySem.Challenge.rw_xw0007_01.prog w) (Ar dp un fr gd) (call (.ref 652) [.none]) Q E s := by
  refine' enterC [(Str.ofString "value", .none)] X T.nolimit (by omega) ?ho ?hcd ?hb ?hl ?hc ?h1 ?h2 ?h3 ?_
  case ho => k_is
  case hcd => k_is
  case hb => exact BindsTo.of_eq rfl
  case hl => exact rfl
  case hc => decide +kernel
  case h1 => rfl
  case h2 => rfl
  case h3 => rfl
  intro L h₁ tk cells' hL F N Y'
  k_cells Y'
  simp only [List.cons_append, List.nil_append, List.append_nil] at N
  k_steps
  exact hQ _ _ F.keep
theorem seen_cell (X : (hd.heap_39 w.params).In s.heap) (T : Top hd.view_39 (looseW hd.view_39 []) mean mg mb s.heap) (hdep : dp + 3 < recursionLimit) {a dx : Addr} {i : Int} {t : Tok} (H : Has s.heap a dx 110 (Str.ofString "number") (.int i t))
    (hQ : ∀ h' tk v', s.heap.StaysIn h' → Reads h' v' (.tuple [.str (Str.ofString "cell"), .int i]) [] → Q v' { s with heap := h', toks := tk }) :
    wpAny (model PySem.Challenge.rw_xw0007_01.prog w) (Ar dp un fr gd) (call (.ref 652) [.ref a]) Q E s := by
  refine' enterC [(Str.ofString "value", .ref a)] X T.nolimit (by omega) ?ho ?hcd ?hb ?hl ?hc ?h1 ?h2 ?h3 ?_
  case ho => k_is
  case hcd => k_is
  case hb => exact BindsTo.of_eq rfl
  case hl => exact rfl
  case hc => decide +kernel
  case h1 => rfl
  case h2 => rfl
  case h3 => rfl
  intro L h₁ tk cells' hL F N Y'
  k_cells Y'
  simp only [List.cons_append, List.nil_append, List.append_nil] at N
  k_steps
  with_reducible rename Fr _ _ _ _ => F2
  with_reducible rename News _ _ _ _ => N2
  exact hQ _ _ _ F2.keep (.tuple (N2 _ (.head _)).1 rfl rfl (by simpa using ReadsAll.cons (.str _ _) (ReadsAll.cons (.int _ _) .nil)))

theorem seen_arr {n : Nat} {Z : Addr → Prop} {items : List D} {bs : List (Int × Int)} {S : List Addr} (ih : SeenOk w n) (X : (hd.heap_39 w.params).In s.heap) (T : Top hd.view_39 (looseW hd.view_39 []) mean mg mb s.heap) (hdep : dp + n + 5 < recursionLimit) (hu : un + 6 * n + 26 < cLine)
    {a dx b l : Addr} {vs : Array Value} (H : Has s.heap a dx 131 (Str.ofString "bounds") (.ref b)) (H2 : Has s.heap a dx 131 (Str.ofString "items") (.ref l))
    (H3 : PairsAt s.heap b bs) (H4 : s.heap.PlainList l vs) (H5 : LiesL (Lies PySem.Challenge.rw_xw0007_01.prog w s.heap Z n) S vs.toList items) (hb : bs.length ≤ 100) (hsz : items.length ≤ 100)
    (hQ : ∀ h' tk v' p as, s.heap.StaysIn h' → Reads h' v' p as → (∀ x ∈ as, s.heap.get? x = none) → SeenR (n + 1) (.arr bs items) p → Q v' { s with heap := h', toks := tk }) :
    wpAny (model PySem.Challenge.rw_xw0007_01.prog w) (Ar dp un fr gd) (call (.ref 652) [.ref a]) Q E s := by
  obtain ⟨bv, B1, B2⟩ := H3
  have B3 := B1.isList
  have L3 := H4.isList
  have bsz : bv.size ≤ sizeLine := by
    have := B2.length
    rw [Array.length_toList] at this
    rw [this, sizeLine]; omega
  have lsz : vs.size ≤ sizeLine := by
    have := H5.length
    rw [Array.length_toList] at this
    rw [this, sizeLine]; omega
  refine' enterC [(Str.ofString "value", .ref a)] X T.nolimit (by omega) ?ho ?hcd ?hb ?hl ?hc ?h1 ?h2 ?h3 ?_
  case ho => k_is
  case hcd => k_is
  case hb => exact BindsTo.of_eq rfl
  case hl => exact rfl
  case hc => decide +kernel
  case h1 => rfl
  case h2 => rfl
  case h3 => rfl
  intro L h₁ tk cells' hL F N Y'
  k_cells Y'
  simp only [List.cons_append, List.nil_append, List.append_nil] at N
  k_steps
  apply unhold
  refine' comp_list (cl := []) ?hh ?hclos ?hcell ?hkind ?hnames ?hx ?h ?hs
  walk_at "my comp"
  k_steps
  with_reducible rename Fr _ _ _ _ => F2
  with_reducible rename News _ _ _ _ => N2
  rename_i o1 d1 D1 c1 h2 l1
  have X2 := X.keeps F2.keep
  have T2 := T.keeps F2.keep
  have hk2 := F2.keep
  refine ⟨l, vs, rfl, L3.at fun o e => F2.keep _ _ e, lsz, fun hh K e hK => ?_⟩
  obtain rfl : h2 = hh := e
  refine ⟨[], SeenI n items h2 K, (fun _ hb => absurd hb List.not_mem_nil), List.not_mem_nil, ⟨[], [], .nil, trivial, fun _ hb => absurd hb List.not_mem_nil⟩, ?_, ?_, ?_⟩
  · rintro i ys h h' ⟨ps, as, r, q, hx⟩ hk
    exact ⟨ps, as, readsAll_move r fun b o e hb => hk b o e (hb.symm.imp id fun hm => (hx b hm).2), q, hx⟩
  · rintro i v ys h3 g3 d3 t3 os3 m₃ hv ⟨ps, as, r, q, hx⟩ hns hm hsz hlv hk
    obtain ⟨S1, d, hd, hlie⟩ := H5.at (by simpa using hv)
    have FC : Fr h2 (K + 2) h3 m₃ := ⟨hns, fun b o e => hk b o List.not_mem_nil e, by rw [hK]; exact Nat.le_add_right _ _⟩
    have NC : News h2 (K + 2) h3 [] := News.nil
    have hlie3 := hlie.stays (stays_trans hk2 FC.keep)
    have X3 := X2.keeps FC.keep
    have T3 := T2.keeps FC.keep
    clear F2 N2
    k_steps
    apply unhold
    refine ih X3 T3 (by walk_at "my room") (by walk_at "my room") hlie3 fun h4 tk4 v4 p4 as4 hk4 r4 hx4 q4 => ?_
    k_unfold
    refine ⟨h4, tk4, rfl, fun b o _ _ e => hk4 b o e, ⟨m₃, hns.keeps hk4⟩, ps ++ [p4], as ++ as4, readsAll_snoc (readsAll_stays r hk4) r4, ?_, ?_⟩
    · rw [take_snoc hd]
      exact q.snoc q4
    · intro x hx'
      rcases List.mem_append.mp hx' with z | z
      · exact hx x z
      · have q3 := hx4 x z
        refine ⟨stays_none FC.keep q3, ?_, ?_, ?_⟩
        · obtain ⟨o, e⟩ := hlv K (.inl rfl); exact (fresh_ne e q3).symm
        · obtain ⟨o, e⟩ := hlv (K + 1) (.inr (.inl rfl)); exact (fresh_ne e q3).symm
        · obtain ⟨o, e⟩ := hlv (K + 2) (.inr (.inr rfl)); exact (fresh_ne e q3).symm
  · rintro h' tk ys hpl hys ⟨ps, as, r, q, hx⟩ hk
    have hk3 : h2.StaysIn h' := fun b o e => hk b o List.not_mem_nil e
    have F3 := Fr.keeps F2 hk3
    have N3 := News.grown N2 hk3
    have hK0 : s.heap.get? (K + 1) = none := stays_none F2.keep (by rw [hK]; exact Heap.get?_none_of_le (Nat.le_add_right _ _))
    have hlen : items.length = vs.size := by
      have := H5.length
      rw [Array.length_toList] at this
      exact this.symm
    rw [← hlen, List.take_length] at q
    have hL2 := F2.ns
    have hL3 := F3.ns
    obtain ⟨gl, Ng, hgk⟩ := snapAll F3
    have N5 := news_app N3 Ng
    clear F2 N2 N3
    k_steps
    with_reducible rename Fr _ _ _ _ => F4
    with_reducible rename News _ _ _ _ => N4
    rename_i D2 h5 l2
    have hk4 := hgk _ _ F4 (news_sub N4 fun p hp => by simp [hp])
    obtain ⟨oL, _, _, eL, _⟩ := hL2
    have hKL : K + 1 ≠ L := by
      intro z
      have := ltN (Heap.lt_size eL)
      have z : @Eq Nat (K + 1) L := z
      omega
    obtain ⟨kn, hpl⟩ := hpl
    refine hQ _ _ _ _ (D1 :: (K + 1) :: as) F4.keep (.tuple (N4 _ (.head _)).1 rfl rfl ?_) ?_ ⟨ps, q, rfl⟩
    · have r1 : Reads h5 (.ref D1) (.list (bs.map pairD)) [D1] := by
        have := Reads.list (N4 (D1, W.listOf bv c1) (by simp)).1 rfl rfl (readsAll_pairs (B2.keep fun b o e _ => F4.keep _ _ e))
        simpa using this
      have r2 : Reads h5 (.ref (K + 1)) (.list ps) ((K + 1) :: as) := .list (hk4 _ _ hpl hKL) rfl rfl (readsAll_move r fun b o e hb => hk4 b o e (by
        rcases hb with hb | hb
        · exact (fresh_ne eL (hx b hb).1).symm
        · exact fun z => not_soft_ns hL3 (z ▸ e) hb))
      simpa using ReadsAll.cons (.str _ _) (ReadsAll.cons r1 (ReadsAll.cons r2 .nil))
    · intro x hx'
      simp only [List.mem_cons] at hx'
      rcases hx' with rfl | rfl | hx'
      · exact (N4 (x, W.listOf bv c1) (by simp)).2.2
      · exact hK0
      · exact stays_none hk2 (hx x hx').1

theorem seen_rec {n : Nat} {Z : Addr → Prop} {fs : List (Str × D)} {num : Int} {S : List Addr} (ih : SeenOk w n) (X : (hd.heap_39 w.params).In s.heap) (T : Top hd.view_39 (looseW hd.view_39 []) mean mg mb s.heap) (hdep : dp + n + 5 < recursionLimit) (hu : un + 6 * n + 26 < cLine)
    {a dx fd ty tdx : Addr} {tn : Tok} {kvs : List (Str × Value)} (H : Has s.heap a dx 152 (Str.ofString "type") (.ref ty)) (H2 : Has s.heap a dx 152 (Str.ofString "fields") (.ref fd))
    (H3 : Has s.heap ty tdx 229 (Str.ofString "number") (.int num tn)) (H4 : s.heap.DictOf (PySem.strKind PySem.Challenge.rw_xw0007_01.prog w) fd kvs) (hks : kvs.map (·.1) = fs.map (·.1))
    (H5 : LiesL (Lies PySem.Challenge.rw_xw0007_01.prog w s.heap Z n) S (kvs.map (·.2)) (fs.map (·.2))) (hsz : fs.length ≤ 20) (hsys : (fd == sysModules) = false) (hok : (fs.map (·.1)).all PyData.strOk = true)
    (hQ : ∀ h' tk v' p as, s.heap.StaysIn h' → Reads h' v' p as → (∀ x ∈ as, s.heap.get? x = none) → SeenR (n + 1) (.recd num fs) p → Q v' { s with heap := h', toks := tk }) :
    wpAny (model PySem.Challenge.rw_xw0007_01.prog w) (Ar dp un fr gd) (call (.ref 652) [.ref a]) Q E s := by
  have hkl : kvs.length = fs.length := by have := congrArg List.length hks; simpa using this
  have hl64 : kvs.length < 64 := by omega
  refine' enterC [(Str.ofString "value", .ref a)] X T.nolimit (by omega) ?ho ?hcd ?hb ?hl ?hc ?h1 ?h2 ?h3 ?_
  case ho => k_is
  case hcd => k_is
  case hb => exact BindsTo.of_eq rfl
  case hl => exact rfl
  case hc => decide +kernel
  case h1 => rfl
  case h2 => rfl
  case h3 => rfl
  intro L h₁ tk cells' hL F N Y'
  k_cells Y'
  simp only [List.cons_append, List.nil_append, List.append_nil] at N
  k_steps
  apply unhold
  rename_i o1 d1
  refine' comp_list (cl := [(Str.ofString "value", L + 1)]) ?hh ?hclos ?hcell ?hkind ?hnames ?hx ?h ?hs
  case hh => rfl
  case hclos => rfl
  case hcell => decide
  case hkind => rfl
  case hnames => decide
  case hx => rfl
  case hs => intro x; rfl
  k_steps
  with_reducible rename Fr s.heap L _ _ => F2
  with_reducible rename News s.heap L _ (_ :: _ :: _) => N2
  rename_i B h2 tkk vs' ss' n1 hS hP hO
  have hnd : (kvs.map (·.1)).Nodup := let ⟨_, _, _, _, _, _, _, _, q⟩ := H4; q
  have hsl : vs'.length = kvs.length := by rw [strsAre_len hS, hP.length_eq, List.length_map]
  have hk2 := F2.keep
  refine ⟨B, vs'.toArray, rfl, ⟨_, (N2 _ (.head _)).1, rfl, n1, rfl⟩, by rw [List.size_toArray, sizeLine]; omega, fun hh K e hK => ?_⟩
  obtain rfl : h2 = hh := e
  refine ⟨[], SeenF n fs ss' h2 K, (fun _ hb => absurd hb List.not_mem_nil), List.not_mem_nil, ⟨[], [], .nil, trivial, fun _ hb => absurd hb List.not_mem_nil⟩, ?_, ?_, ?_⟩
  · rintro i ys h h' ⟨ps, as, r, q, hx⟩ hk
    exact ⟨ps, as, readsAll_move r fun b o e hb => hk b o e (hb.symm.imp id fun hm => (hx b hm).2), q, hx⟩
  · rintro i v ys h3 g3 d3 t3 os3 m₃ hv ⟨ps, as, r, q, hx⟩ hns hm hsz' hlv hk
    obtain ⟨k, t, hks', rfl⟩ := strsAre_get hS (by simpa using hv)
    have hkm : k ∈ kvs.map (·.1) := hP.mem_iff.mp (List.mem_of_getElem? hks')
    obtain ⟨⟨k', vk⟩, hp, hpe⟩ := List.mem_map.mp hkm
    obtain rfl : k' = k := hpe
    obtain ⟨j, hj⟩ := List.getElem?_of_mem hp
    have hva := valueAt_get hnd hj
    obtain ⟨S1, d, hd, hlie⟩ := H5.at (i := j) (v := vk) (by rw [List.getElem?_map, hj]; rfl)
    have hkf : (fs.map (·.1))[j]? = some k' := by rw [← hks, List.getElem?_map, hj]; rfl
    have hfi : (k', d) ∈ fs := by
      rw [List.getElem?_map] at hkf hd
      cases q : fs[j]? with
      | none => rw [q] at hd; cases hd
      | some x => rw [q] at hd hkf; obtain ⟨x1, x2⟩ := x; cases hd; cases hkf; exact List.mem_of_getElem? q
    have FC : Fr s.heap (K + 2) h3 m₃ := ⟨hns, fun b o e => hk b o List.not_mem_nil (hk2 b o e), Nat.le_trans F2.above (by have := ltN F2.ns.lt; rw [hK]; exact Nat.le_of_lt (Nat.lt_of_lt_of_le F2.ns.lt (Nat.le_add_right _ _)))⟩
    have hc := N2 (L + 1, o1) (by simp)
    have NC : News s.heap (K + 2) h3 [(L + 1, o1)] := by
      intro p hp
      rw [List.mem_singleton.mp hp]
      exact ⟨hk _ _ List.not_mem_nil hc.1, neN (by have := ltN (Heap.lt_size hc.1); omega), hc.2.2⟩
    clear F2 N2 F N
    k_steps
    apply unhold
    refine ih (X.keeps FC.keep) (T.keeps FC.keep) (by walk_at "my room") (by walk_at "my room") (hlie.stays FC.keep) fun h4 tk4 v4 p4 as4 hk4 r4 hx4 q4 => ?_
    have F4 := Fr.keeps FC hk4
    have N4 := News.grown NC hk4
    obtain ⟨gl, Ng, hgk⟩ := snapAll F4
    have N5 := news_app N4 Ng
    have hC4 := F4.ns
    clear FC NC N4 Ng
    k_steps
    with_reducible rename Fr _ _ _ _ => F6
    with_reducible rename News _ _ _ (_ :: _) => N6
    rename_i D2 h5 l2
    have hk5 := hgk _ _ F6 (news_sub N6 fun p hp => by simp [hp])
    have hk45 : ∀ b o, h4.get? b = some o → (b ∈ as ∨ b ∈ as4 ∨ Soft o) → h5.get? b = some o := fun b o e hb => hk5 b o e (by
      rcases hb with hb | hb | hb
      · exact (hx b hb).2.2.2
      · obtain ⟨o', e'⟩ := hlv (K + 2) (.inr (.inr rfl))
        exact (fresh_ne e' (hx4 b hb)).symm
      · exact fun z => not_soft_ns hC4 (z ▸ e) hb)
    refine ⟨h5, _, rfl, fun b o _ hb e => hk5 b o (hk4 _ _ e) hb, ⟨_, F6.ns⟩, ps ++ [.tuple [.str k', p4]], as ++ as4, ?_, ?_, ?_⟩
    · refine readsAll_snoc (readsAll_move (readsAll_stays r hk4) fun b o e hb => hk45 b o e (hb.imp id .inr)) ?_
      have r5 := reads_move r4 fun b o e hb => hk45 b o e (.inr hb)
      exact .tuple (N6 _ (.head _)).1 rfl rfl (by simpa using ReadsAll.cons (.str k' t) (ReadsAll.cons r5 .nil))
    · rw [take_snoc hks']
      exact q.snoc ⟨d, p4, hfi, q4, rfl⟩
    · intro x hx'
      rcases List.mem_append.mp hx' with z | z
      · exact hx x z
      · have q3 := hx4 x z
        refine ⟨?_, ?_, ?_, ?_⟩
        · cases q2 : h2.get? x with
          | none => rfl
          | some o => have := hk _ _ List.not_mem_nil q2; rw [q3] at this; cases this
        · obtain ⟨o, e⟩ := hlv K (.inl rfl); exact (fresh_ne e q3).symm
        · obtain ⟨o, e⟩ := hlv (K + 1) (.inr (.inl rfl)); exact (fresh_ne e q3).symm
        · obtain ⟨o, e⟩ := hlv (K + 2) (.inr (.inr rfl)); exact (fresh_ne e q3).symm
  · rintro h' tk ys hpl hys ⟨ps, as, r, q, hx⟩ hk
    have hk3 : h2.StaysIn h' := fun b o e => hk b o List.not_mem_nil e
    have F3 := Fr.keeps F2 hk3
    have N3 := News.grown N2 hk3
    have hK0 : s.heap.get? (K + 1) = none := stays_none F2.keep (by rw [hK]; exact Heap.get?_none_of_le (Nat.le_add_right _ _))
    have hlen : vs'.toArray.size = ss'.length := by rw [List.size_toArray, strsAre_len hS]
    rw [hlen, List.take_length] at q
    have hL2 := F2.ns
    have hL3 := F3.ns
    obtain ⟨gl, Ng, hgk⟩ := snapAll F3
    have N5 := news_app N3 Ng
    clear F2 N2 N3 F N
    k_steps
    with_reducible rename Fr _ _ _ _ => F4
    with_reducible rename News _ _ _ (_ :: _) => N4
    rename_i D2 h5 l2
    have hk4 := hgk _ _ F4 (news_sub N4 fun p hp => by simp [hp])
    obtain ⟨oL, _, _, eL, _⟩ := hL2
    have hKL : K + 1 ≠ L := by
      intro z
      have := ltN (Heap.lt_size eL)
      have z : @Eq Nat (K + 1) L := z
      omega
    obtain ⟨kn, hpl⟩ := hpl
    refine hQ _ _ _ _ ((K + 1) :: as) F4.keep (.tuple (N4 _ (.head _)).1 rfl rfl ?_) ?_ ⟨ss', ps, by rw [← hks]; exact hP, hO, by rw [← hks]; exact hnd, fun k hk => List.all_eq_true.mp hok k (by rw [← hks]; exact hP.mem_iff.mp hk), q, rfl⟩
    · have r2 : Reads h5 (.ref (K + 1)) (.list ps) ((K + 1) :: as) := .list (hk4 _ _ hpl hKL) rfl rfl (readsAll_move r fun b o e hb => hk4 b o e (by
        rcases hb with hb | hb
        · exact (fresh_ne eL (hx b hb).1).symm
        · exact fun z => not_soft_ns hL3 (z ▸ e) hb))
      simpa using ReadsAll.cons (.str _ _) (ReadsAll.cons (.int _ _) (ReadsAll.cons r2 .nil))
    · intro x hx'
      simp only [List.mem_cons] at hx'
      rcases hx' with rfl | hx'
      · exact hK0
      · exact stays_none hk2 (hx x hx').1

theorem seen_ok : ∀ n, SeenOk w n := by
  intro n
  induction n with
  | zero =>
    intro mean mg mb dp un fr gd E s Q Z S v d X T hdep hu hl hQ
    cases d with
    | int i =>
      obtain ⟨rfl, t, rfl⟩ := hl
      exact seen_int X T (by omega) fun h' tk k => hQ h' tk _ _ [] k (.int i t) (fun _ hb => absurd hb List.not_mem_nil) rfl
    | none =>
      obtain ⟨rfl, rfl⟩ := hl
      exact seen_none X T (by omega) fun h' tk k => hQ h' tk _ _ [] k .none (fun _ hb => absurd hb List.not_mem_nil) rfl
    | cell c =>
      obtain ⟨rfl, a, dx, tk, rfl, H, hZ⟩ := hl
      exact seen_cell X T (by omega) H fun h' tk' v' k r => hQ h' tk' _ _ [] k r (fun _ hb => absurd hb List.not_mem_nil) rfl
    | _ => exact hl.elim
  | succ n ih =>
    intro mean mg mb dp un fr gd E s Q Z S v d X T hdep hu hl hQ
    cases d with
    | int i =>
      obtain ⟨rfl, t, rfl⟩ := hl
      exact seen_int X T (by omega) fun h' tk k => hQ h' tk _ _ [] k (.int i t) (fun _ hb => absurd hb List.not_mem_nil) rfl
    | none =>
      obtain ⟨rfl, rfl⟩ := hl
      exact seen_none X T (by omega) fun h' tk k => hQ h' tk _ _ [] k .none (fun _ hb => absurd hb List.not_mem_nil) rfl
    | cell c =>
      obtain ⟨rfl, a, dx, tk, rfl, H, hZ⟩ := hl
      exact seen_cell X T (by omega) H fun h' tk' v' k r => hQ h' tk' _ _ [] k r (fun _ hb => absurd hb List.not_mem_nil) rfl
    | arr bs items =>
      obtain ⟨a, dx, b, l, vs, S', rfl, rfl, g1, g2, pa, pl, r, s1, s2⟩ := hl
      exact seen_arr ih X T (by omega) (by omega) g1 g2 pa pl r s1 s2 hQ
    | recd num fs =>
      obtain ⟨a, dx, fd, ty, tdx, tk, kvs, S', rfl, rfl, g1, g2, g3, hZ, hd, hks, r, s1, s2, s3⟩ := hl
      exact seen_rec ih X T (by omega) (by omega) g1 g2 g3 hd hks r s1 s2 s3 hQ
end
/-- the items that still stand as they were -/
inductive SpoilI (h0 : Heap) (L a : Addr) (x : Str) (news : List (Addr × Obj)) (w : World) (Z : Addr → Prop) (n : Nat) (vs : List Value) (items : List D) (S : List Addr) (i : Nat) (h : Heap) : Prop
  | mk (u : Option Value) (R : List Addr) (F : Fr h0 L h (fun y => if y = x then u else List.lookup y [(Str.ofString "value", Value.ref a)].reverse)) (N : News h0 L h news)
    (r : LiesL (Lies PySem.Challenge.rw_xw0007_01.prog w h Z n) R (vs.drop i) (items.drop i)) (nd : R.Nodup) (hR : ∀ x ∈ R, x ∈ S) : SpoilI h0 L a x news w Z n vs items S i h
def SpoilOk (w : World) (n : Nat) : Prop := ∀ {mean : ExcName → Option Value} {mg mb : Str → Option Value} {dp un : Nat} {fr : Option (List Env)} {gd : Option (List Code)} {E : Value → Shared → Prop} {s : Shared} {Q : Value → Shared → Prop} {Z : Addr → Prop} {S : List Addr} {v : Value} {d : D} {hw : Heap},
  (hd.heap_39 w.params).In hw → Top hd.view_39 (looseW hd.view_39 []) mean mg mb hw → hw.StaysIn s.heap → (∀ x ∈ S, hw.get? x = none) → dp + n + 3 < recursionLimit → un + 6 * n + 20 < cLine →
  Lies PySem.Challenge.rw_xw0007_01.prog w s.heap Z n S v d → S.Nodup → (∀ x ∈ S, ¬ Z x) → (∀ x, Z x → ∃ o, s.heap.get? x = some o) →
  (∀ h' tk, (∀ b o, s.heap.get? b = some o → (b ∉ S ∨ Soft o) → h'.get? b = some o) → Q .none { s with heap := h', toks := tk }) →
  wpAny (model PySem.Challenge.rw_xw0007_01.prog w) (Ar dp un fr gd) (call (.ref 659) [v]) Q E s

section
variable {w : World} {dp un : Nat} {fr : Option (List Env)} {gd : Option (List Code)} {E : Value → Shared → Prop} {s : Shared} {Q : Value → Shared → Prop} {mean : ExcName → Option Value} {mg mb : Str → Option Value}

theorem spoil_int (X : (hd.heap_39 w.params).In s.heap) (T : Top hd.view_39 (looseW hd.view_39 []) mean mg mb s.heap) (hdep : dp + 2 < recursionLimit) {i : Int} {t : Tok}
    (hQ : ∀ h' tk, s.heap.StaysIn h' → Q .none { s with heap := h', toks := tk }) :
    wpAny (model PySem.Challenge.rw_xw0007_01.prog w) (Ar dp un fr gd) (call (.ref 659) [.int i t]) Q E s := by
  refine' enter [(Str.ofString "value", .int i t)] X T.nolimit (by omega) ?ho ?hcd ?hb ?hl ?hc ?h1 ?h2 ?h3 ?_
  case ho => k_is
  case hcd => k_is
  case hb => exact BindsTo.of_eq rfl
  case hl => exact locs rfl
  case hc => decide
  case h1 => rfl
  case h2 => rfl
  case h3 => rfl
  intro L h₁ hL F N
  k_fold
  k_steps
  exact hQ _ _ F.keep
theorem spoil_none (X : (hd.heap_39 w.params).In s.heap) (T : Top hd.view_39 (looseW hd.view_39 []) mean mg mb s.heap) (hdep : dp + 2 < recursionLimit)
    (hQ : ∀ h' tk, s.heap.StaysIn h' → Q .none { s with heap := h', toks := tk }) :
    wpAny (model PySem.Challenge.rw_xw0007_01.prog w) (Ar dp un fr gd) (call (.ref 659) [.none]) Q E s := by
  refine' enter [(Str.ofString "value", .none)] X T.nolimit (by omega) ?ho ?hcd ?hb ?hl ?hc ?h1 ?h2 ?h3 ?_
  case ho => k_is
  case hcd => k_is
  case hb => exact BindsTo.of_eq rfl
  case hl => exact locs rfl
  case hc => decide
  case h1 => rfl
  case h2 => rfl
  case h3 => rfl
  intro L h₁ hL F N
  k_fold
  k_steps
  exact hQ _ _ F.keep
theorem spoil_cell (X : (hd.heap_39 w.params).In s.heap) (T : Top hd.view_39 (looseW hd.view_39 []) mean mg mb s.heap) (hdep : dp + 2 < recursionLimit) {a dx : Addr} {i : Int} {t : Tok} (H : Has s.heap a dx 110 (Str.ofString "number") (.int i t))
    (hQ : ∀ h' tk, s.heap.StaysIn h' → Q .none { s with heap := h', toks := tk }) :
    wpAny (model PySem.Challenge.rw_xw0007_01.prog w) (Ar dp un fr gd) (call (.ref 659) [.ref a]) Q E s := by
  refine' enter [(Str.ofString "value", .ref a)] X T.nolimit (by omega) ?ho ?hcd ?hb ?hl ?hc ?h1 ?h2 ?h3 ?_
  case ho => k_is
  case hcd => k_is
  case hb => exact BindsTo.of_eq rfl
  case hl => exact locs rfl
  case hc => decide
  case h1 => rfl
  case h2 => rfl
  case h3 => rfl
  intro L h₁ hL F N
  k_fold
  k_steps
  exact hQ _ _ F.keep

theorem spoil_arr {n : Nat} {Z : Addr → Prop} {items : List D} {bs : List (Int × Int)} {S : List Addr} {hw : Heap} (ih : SpoilOk w n) (X : (hd.heap_39 w.params).In hw) (T : Top hd.view_39 (looseW hd.view_39 []) mean mg mb hw) (hws : hw.StaysIn s.heap) (hdep : dp + n + 4 < recursionLimit) (hu : un + 6 * n + 26 < cLine)
    {a dx b l : Addr} {vs : Array Value} (hS : ∀ x ∈ dx :: b :: l :: S, hw.get? x = none) (hnd : (dx :: b :: l :: S).Nodup) (hZ : ∀ x ∈ dx :: b :: l :: S, ¬ Z x) (hZl : ∀ x, Z x → ∃ o, s.heap.get? x = some o) (H : Has s.heap a dx 131 (Str.ofString "bounds") (.ref b)) (H2 : Has s.heap a dx 131 (Str.ofString "items") (.ref l))
    (H3 : PairsAt s.heap b bs) (H4 : s.heap.PlainList l vs) (H5 : LiesL (Lies PySem.Challenge.rw_xw0007_01.prog w s.heap Z n) S vs.toList items) (hb : bs.length ≤ 100) (hsz : items.length ≤ 100)
    (hQ : ∀ h' tk, (∀ x o, s.heap.get? x = some o → (x ∉ dx :: b :: l :: S ∨ Soft o) → h'.get? x = some o) → Q .none { s with heap := h', toks := tk }) :
    wpAny (model PySem.Challenge.rw_xw0007_01.prog w) (Ar dp un fr gd) (call (.ref 659) [.ref a]) Q E s := by
  obtain ⟨bv, ⟨nb, B1⟩, B2⟩ := H3
  obtain ⟨nl, L1⟩ := H4
  have bsz : bv.size ≤ 100 := by
    have := B2.length
    rw [Array.length_toList] at this
    omega
  have lsz : vs.size ≤ 100 := by
    have := H5.length
    rw [Array.length_toList] at this
    omega
  -- the base: all but what is changed
  have hne : @Ne Nat b l := by
    have := (List.nodup_cons.mp (List.nodup_cons.mp hnd).2).1
    exact fun q => this (by rw [q]; exact .head _)
  have hdx : dx ∉ b :: l :: S := (List.nodup_cons.mp hnd).1
  have hnS : S.Nodup := (List.nodup_cons.mp (List.nodup_cons.mp (List.nodup_cons.mp hnd).2).2).2
  have hbS : b ∉ S := fun q => (List.nodup_cons.mp (List.nodup_cons.mp hnd).2).1 (.tail _ q)
  have hlS : l ∉ S := (List.nodup_cons.mp (List.nodup_cons.mp (List.nodup_cons.mp hnd).2).2).1
  have hb0 : (hideAll s.heap (b :: l :: S)).StaysIn s.heap := fun x o e => of_hideAll _ e
  have hin : ∀ x o, s.heap.get? x = some o → x ∉ b :: l :: S → (hideAll s.heap (b :: l :: S)).get? x = some o := fun x o e hx => hideAll_get _ e hx
  have hout : ∀ x, x ∈ b :: l :: S → (hideAll s.heap (b :: l :: S)).get? x = none := fun x hx => hideAll_none _ hx
  have hsz0 : (hideAll s.heap (b :: l :: S)).objs.size = s.heap.objs.size := hideAll_size _ _
  generalize hideAll s.heap (b :: l :: S) = h0 at hb0 hin hout hsz0
  have hw0 : hw.StaysIn h0 := fun x o e => hin x o (hws _ _ e) fun hm => by
    have := hS x (.tail _ hm)
    rw [e] at this; cases this
  have X0 := X.keeps hw0
  have T0 := T.keeps hw0
  have hS5 := H5.hardAll fun _ _ _ q => q.hard
  have hZ0 : ∀ x, Z x → ∃ o, h0.get? x = some o := fun x hx => let ⟨o, e⟩ := hZl x hx; ⟨o, hin x o e fun q => hZ x (.tail _ q) hx⟩
  have hhard : ∀ x o, x ∈ b :: l :: S → s.heap.get? x = some o → ¬ Soft o := by
    intro x o hx e
    simp only [List.mem_cons] at hx
    rcases hx with rfl | rfl | hx
    · exact not_soft_list ⟨_, B1⟩ e
    · exact not_soft_list ⟨_, L1⟩ e
    · obtain ⟨o', e', q⟩ := hS5 x hx
      rw [e] at e'; cases e'; exact q
  have K1 : Has h0 a dx 131 (Str.ofString "bounds") (.ref b) := H.keep (fun o e sf => hin _ _ e fun hm => hhard _ _ hm e sf) fun o e => hin _ _ e hdx
  have K2 : Has h0 a dx 131 (Str.ofString "items") (.ref l) := H2.keep (fun o e sf => hin _ _ e fun hm => hhard _ _ hm e sf) fun o e => hin _ _ e hdx
  refine' enterG [(Str.ofString "value", .ref a)] hb0 (Nat.le_of_eq hsz0) (news := [(b, W.listOf bv nb), (l, W.listOf vs nl)]) (by intro p hp; rcases List.mem_cons.mp hp with rfl | hp; exact ⟨B1, hout _ (.head _)⟩; rw [List.mem_singleton.mp hp]; exact ⟨L1, hout _ (.tail _ (.head _))⟩) X0 T0.nolimit (by omega) ?ho ?hcd ?hb ?hl ?hc ?h1 ?h2 ?h3 ?_
  case ho => k_is
  case hcd => k_is
  case hb => exact BindsTo.of_eq rfl
  case hl => exact locs rfl
  case hc => decide
  case h1 => rfl
  case h2 => rfl
  case h3 => rfl
  intro L h₁ hL hk1 F N
  k_fold
  k_steps
  apply unhold
  refine' for_list ?hh ?h ?hs
  case hh => rfl
  case hs => intro x; rfl
  k_steps
  have hLS : L ∉ S := fun q => by obtain ⟨o, e, _⟩ := hS5 L q; have := ltN (Heap.lt_size e); omega
  have hLn : s.heap.get? L = none := by rw [hL]; exact Heap.get?_none_of_le (Nat.le_refl _)
  refine ⟨l, vs, rfl, ⟨_, (N _ (.tail _ (.head _))).1, rfl, nl, rfl⟩, fun hh K e hK => ?_⟩
  obtain rfl : h₁ = hh := e
  have hKL : L ≠ K := neN (by have := ltN F.ns.lt; omega)
  have hKn : ∀ x o, s.heap.get? x = some o → x ≠ K := fun x o e => neN (by have := ltN (Heap.lt_size e); have := ltN F.ns.lt; omega)
  have hKS : K ∉ S := fun q => by obtain ⟨o, e, _⟩ := hS5 K q; exact hKn _ _ e rfl
  have hK0 : h0.get? K = none := Heap.get?_none_of_le (by rw [hsz0, hK]; have := ltN F.ns.lt; omega)
  have hs0 : ∀ x ∈ S, h0.get? x = none := fun x hx => hout x (.tail _ (.tail _ hx))
  refine ⟨SpoilI h0 L a (Str.ofString "item") [(b, W.listOf bv nb), (l, W.listOf vs nl)] w Z n vs.toList items S, ?_, ?_, ?_, ?_⟩
  · exact ⟨_, S, fr_first F, N, by simpa using H5.stays hk1, hnS, fun _ q => q⟩
  · rintro i h h' ⟨u, R, F', N', r, nd, hR⟩ hk
    refine ⟨u, R, fr_at F' (fun b o hb e => hk b o e (.inr hb)) hKL hK0, news_at N' (fun b o hb e => hk b o e (.inr hb)) (by intro p hp; rcases List.mem_cons.mp hp with rfl | hp; exact hKn _ _ B1; rw [List.mem_singleton.mp hp]; exact hKn _ _ L1), r.mono fun S1 v d hS1 _ y => y.move (fun _ q => q) fun x o e hb => hk x o e ?_, nd, hR⟩
    rcases hb with hb | hb | hb
    · exact .inr fun q => hKS (q ▸ hR _ (hS1 _ hb))
    · obtain ⟨o', e'⟩ := hZl x hb
      exact .inr (hKn _ _ e')
    · exact .inl hb
  · rintro i v h3 tk3 oI hv hoI hoIs ⟨u, R, F', N', r, nd, hR⟩
    have hv' : vs.toList[i]? = some v := by simpa using hv
    rw [drop_cons hv'] at r
    obtain ⟨d, hd⟩ : ∃ d, items[i]? = some d := by
      obtain ⟨_, d, q, _⟩ := H5.at hv'
      exact ⟨d, q⟩
    rw [drop_cons hd] at r
    obtain ⟨S1, S2, rfl, lie, rest⟩ := r
    obtain ⟨gl, Ng, hgk⟩ := snapAll F'
    have N5 := news_app (news_with N' hoI (Ne.symm hKL) hK0) Ng
    have hL3 := F'.ns
    have hl3 := (N' (l, W.listOf vs nl) (by simp)).1
    clear F N
    k_steps
    apply unhold
    with_reducible rename Fr _ _ _ _ => F4
    with_reducible rename News _ _ _ (_ ++ gl) => N4
    rename_i h4
    have hk34 := hgk _ _ F4 (news_sub N4 fun p hp => by simp [hp])
    have F4 := fr_again F4
    have hmv : ∀ {T : List Addr} {v' : Value} {d' : D}, (∀ x ∈ T, x ∈ S) → Lies PySem.Challenge.rw_xw0007_01.prog w h3 Z n T v' d' → Lies PySem.Challenge.rw_xw0007_01.prog w h4 Z n T v' d' := fun hT y => y.move (fun _ q => q) fun x o e hb => hk34 x o e (by
      rcases hb with hb | hb | hb
      · exact fun q => hLS (q ▸ hT x hb)
      · obtain ⟨o', e'⟩ := hZl x hb
        exact fresh_ne e' hLn
      · exact fun q => not_soft_ns hL3 (q ▸ e) hb)
    have lie4 := hmv (fun x hx => hR x (List.mem_append_left _ hx)) lie
    have rest4 := rest.mono fun T v' d' hT _ y => hmv (fun x hx => hR x (List.mem_append_right _ (hT x hx))) y
    obtain ⟨nd1, nd2, nd12⟩ := List.nodup_append.mp nd
    refine ih X T (stays_trans hw0 F4.keep) (fun x hx => hS x (.tail _ (.tail _ (.tail _ (hR x (List.mem_append_left _ hx)))))) (by walk_at "my room") (by walk_at "my room") lie4 nd1 (fun x hx => hZ x (.tail _ (.tail _ (.tail _ (hR x (List.mem_append_left _ hx))))))
      (fun x hx => let ⟨o, e⟩ := hZ0 x hx; ⟨o, F4.keep _ _ e⟩) fun h5 tk5 hk5 => ?_
    have hkx : ∀ x o, h4.get? x = some o → x ∉ S1 → h5.get? x = some o := fun x o e hx => hk5 x o e (.inl hx)
    have hS1 : ∀ x ∈ S1, x ∈ S := fun x hx => hR x (List.mem_append_left _ hx)
    have F5 := fr_keepX F4 hkx (fun x hx => hs0 x (hS1 x hx)) fun q => hLS (hS1 _ q)
    have N5 := news_keepX (S := S1) (news_sub (b := [(K, oI), (b, W.listOf bv nb), (l, W.listOf vs nl)]) N4 fun p hp => List.mem_append_left _ hp) hkx (by
      intro p hp q
      have q := hS1 _ q
      simp only [List.mem_cons, List.not_mem_nil, or_false] at hp
      rcases hp with rfl | rfl | rfl
      · exact hKS q
      · exact hbS q
      · exact hlS q)
    refine wpAny_execs_nil (unhold ⟨h5, _, rfl, (N5 _ (.head _)).1, fun o e => ?_, _, S2, F5, fun p hp => N5 p (.tail _ hp), ?_, nd2, fun x hx => hR x (List.mem_append_right _ hx)⟩)
    · rw [e] at hl3; cases hl3
      exact (N5 (l, W.listOf vs nl) (by simp)).1
    · refine rest4.mono fun T v' d' hT _ y => y.move (fun _ q => q) fun x o e hb => hk5 x o e ?_
      rcases hb with hb | hb | hb
      · exact .inl fun q => nd12 x q x (hT x hb) rfl
      · exact .inl fun q => hZ x (.tail _ (.tail _ (.tail _ (hS1 x q)))) hb
      · exact .inr hb
  · rintro h' tk' ⟨u, R, F', N', r, nd, hR⟩
    have lt1 : @Ne Nat b l := hne
    clear F N r
    k_steps
    try show wpAny _ _ (call (Value.builtin "list.append") [Value.ref _, Value.int _ _]) _ _ _
    k_steps
    try show wpAny _ _ (call (Value.builtin "list.append") [Value.ref _, Value.ref _]) _ _ _
    k_steps
    with_reducible rename Fr _ _ _ _ => F2
    exact hQ _ _ fun x o e hx => F2.keep _ _ (hin x o e fun hm => hx.elim (fun q => q (.tail _ hm)) (hhard x o hm e))

theorem spoil_rec {n : Nat} {Z : Addr → Prop} {fs : List (Str × D)} {S : List Addr} {hw : Heap} (ih : SpoilOk w n) (X : (hd.heap_39 w.params).In hw) (T : Top hd.view_39 (looseW hd.view_39 []) mean mg mb hw) (hws : hw.StaysIn s.heap) (hdep : dp + n + 4 < recursionLimit) (hu : un + 6 * n + 26 < cLine)
    {a dx fd : Addr} {kvs : List (Str × Value)} (hS : ∀ x ∈ dx :: fd :: S, hw.get? x = none) (hnd : (dx :: fd :: S).Nodup) (hZ : ∀ x ∈ dx :: fd :: S, ¬ Z x) (hZl : ∀ x, Z x → ∃ o, s.heap.get? x = some o)
    (H2 : Has s.heap a dx 152 (Str.ofString "fields") (.ref fd)) (H4 : s.heap.DictOf (PySem.strKind PySem.Challenge.rw_xw0007_01.prog w) fd kvs) (hks : kvs.map (·.1) = fs.map (·.1))
    (H5 : LiesL (Lies PySem.Challenge.rw_xw0007_01.prog w s.heap Z n) S (kvs.map (·.2)) (fs.map (·.2))) (hsz : fs.length ≤ 20) (hsys : (fd == sysModules) = false)
    (hQ : ∀ h' tk, (∀ x o, s.heap.get? x = some o → (x ∉ dx :: fd :: S ∨ Soft o) → h'.get? x = some o) → Q .none { s with heap := h', toks := tk }) :
    wpAny (model PySem.Challenge.rw_xw0007_01.prog w) (Ar dp un fr gd) (call (.ref 659) [.ref a]) Q E s := by
  have hdx : dx ∉ fd :: S := (List.nodup_cons.mp hnd).1
  have hnS : S.Nodup := (List.nodup_cons.mp (List.nodup_cons.mp hnd).2).2
  have hfS : fd ∉ S := (List.nodup_cons.mp (List.nodup_cons.mp hnd).2).1
  obtain ⟨of, hof, hod⟩ := Heap.dictOf_iff.mp H4
  have hkl : kvs.length = fs.length := by have := congrArg List.length hks; simpa using this
  have hb0 : (hideAll s.heap (fd :: S)).StaysIn s.heap := fun x o e => of_hideAll _ e
  have hin : ∀ x o, s.heap.get? x = some o → x ∉ fd :: S → (hideAll s.heap (fd :: S)).get? x = some o := fun x o e hx => hideAll_get _ e hx
  have hout : ∀ x, x ∈ fd :: S → (hideAll s.heap (fd :: S)).get? x = none := fun x hx => hideAll_none _ hx
  have hsz0 : (hideAll s.heap (fd :: S)).objs.size = s.heap.objs.size := hideAll_size _ _
  generalize hideAll s.heap (fd :: S) = h0 at hb0 hin hout hsz0
  have hw0 : hw.StaysIn h0 := fun x o e => hin x o (hws _ _ e) fun hm => by
    have := hS x (.tail _ hm)
    rw [e] at this; cases this
  have X0 := X.keeps hw0
  have T0 := T.keeps hw0
  have hS5 := H5.hardAll fun _ _ _ q => q.hard
  have hZ0 : ∀ x, Z x → ∃ o, h0.get? x = some o := fun x hx => let ⟨o, e⟩ := hZl x hx; ⟨o, hin x o e fun q => hZ x (.tail _ q) hx⟩
  have hhard : ∀ x o, x ∈ fd :: S → s.heap.get? x = some o → ¬ Soft o := by
    intro x o hx e
    rcases List.mem_cons.mp hx with rfl | hx
    · obtain ⟨o', e', q⟩ := dictOf_hard H4
      rw [e] at e'; cases e'; exact q
    · obtain ⟨o', e', q⟩ := hS5 x hx
      rw [e] at e'; cases e'; exact q
  have K2 : Has h0 a dx 152 (Str.ofString "fields") (.ref fd) := H2.keep (fun o e sf => hin _ _ e fun hm => hhard _ _ hm e sf) fun o e => hin _ _ e hdx
  refine' enterG [(Str.ofString "value", .ref a)] hb0 (Nat.le_of_eq hsz0) (news := [(fd, of)]) (by intro p hp; rw [List.mem_singleton.mp hp]; exact ⟨hof, hout _ (.head _)⟩) X0 T0.nolimit (by omega) ?ho ?hcd ?hb ?hl ?hc ?h1 ?h2 ?h3 ?_
  case ho => k_is
  case hcd => k_is
  case hb => exact BindsTo.of_eq rfl
  case hl => exact locs rfl
  case hc => decide
  case h1 => rfl
  case h2 => rfl
  case h3 => rfl
  intro L h₁ hL hk1 F N
  k_fold
  k_steps
  apply unhold
  refine' for_dict ?hh ?h ?hs
  case hh => rfl
  case hs => intro x; rfl
  k_steps
  have hLS : L ∉ S := fun q => by obtain ⟨o, e, _⟩ := hS5 L q; have := ltN (Heap.lt_size e); omega
  have hLn : s.heap.get? L = none := by rw [hL]; exact Heap.get?_none_of_le (Nat.le_refl _)
  refine ⟨fd, kvs, rfl, hsys, Heap.dictOf_iff.mpr ⟨of, (N _ (.head _)).1, hod⟩, fun hh K e hK => ?_⟩
  obtain rfl : h₁ = hh := e
  have hKL : L ≠ K := neN (by have := ltN F.ns.lt; omega)
  have hKn : ∀ x o, s.heap.get? x = some o → x ≠ K := fun x o e => neN (by have := ltN (Heap.lt_size e); have := ltN F.ns.lt; omega)
  have hKS : K ∉ S := fun q => by obtain ⟨o, e, _⟩ := hS5 K q; exact hKn _ _ e rfl
  have hK0 : h0.get? K = none := Heap.get?_none_of_le (by rw [hsz0, hK]; have := ltN F.ns.lt; omega)
  have hs0 : ∀ x ∈ S, h0.get? x = none := fun x hx => hout x (.tail _ hx)
  have hnk : (kvs.map (·.1)).Nodup := let ⟨_, _, _, _, _, _, _, _, q⟩ := H4; q
  refine ⟨SpoilI h0 L a (Str.ofString "name") [(fd, of)] w Z n (kvs.map (·.2)) (fs.map (·.2)) S, ?_, ?_, ?_, ?_⟩
  · exact ⟨_, S, fr_first F, N, by simpa using H5.stays hk1, hnS, fun _ q => q⟩
  · rintro i h h' ⟨u, R, F', N', r, nd, hR⟩ hk
    refine ⟨u, R, fr_at F' (fun b o hb e => hk b o e (.inr hb)) hKL hK0, news_at N' (fun b o hb e => hk b o e (.inr hb)) (by intro p hp; rw [List.mem_singleton.mp hp]; exact hKn _ _ hof), r.mono fun S1 v d hS1 _ y => y.move (fun _ q => q) fun x o e hb => hk x o e ?_, nd, hR⟩
    rcases hb with hb | hb | hb
    · exact .inr fun q => hKS (q ▸ hR _ (hS1 _ hb))
    · obtain ⟨o', e'⟩ := hZl x hb
      exact .inr (hKn _ _ e')
    · exact .inl hb
  · rintro i k v t h3 tk3 oI hkv hoI hoIs ⟨u, R, F', N', r, nd, hR⟩
    have hv' : (kvs.map (·.2))[i]? = some v := by rw [List.getElem?_map, hkv]; rfl
    have hva := valueAt_get hnk hkv
    rw [drop_cons hv'] at r
    obtain ⟨d, hd⟩ : ∃ d, (fs.map (·.2))[i]? = some d := by
      obtain ⟨_, d, q, _⟩ := H5.at hv'
      exact ⟨d, q⟩
    rw [drop_cons hd] at r
    obtain ⟨S1, S2, rfl, lie, rest⟩ := r
    obtain ⟨gl, Ng, hgk⟩ := snapAll F'
    have N5 := news_app (news_with N' hoI (Ne.symm hKL) hK0) Ng
    have hL3 := F'.ns
    have hl3 := (N' (fd, of) (by simp)).1
    clear F N
    k_steps
    apply unhold
    with_reducible rename Fr _ _ _ _ => F4
    with_reducible rename News _ _ _ (_ ++ gl) => N4
    rename_i h4
    have hk34 := hgk _ _ F4 (news_sub N4 fun p hp => by simp [hp])
    have F4 := fr_again F4
    have hmv : ∀ {T : List Addr} {v' : Value} {d' : D}, (∀ x ∈ T, x ∈ S) → Lies PySem.Challenge.rw_xw0007_01.prog w h3 Z n T v' d' → Lies PySem.Challenge.rw_xw0007_01.prog w h4 Z n T v' d' := fun hT y => y.move (fun _ q => q) fun x o e hb => hk34 x o e (by
      rcases hb with hb | hb | hb
      · exact fun q => hLS (q ▸ hT x hb)
      · obtain ⟨o', e'⟩ := hZl x hb
        exact fresh_ne e' hLn
      · exact fun q => not_soft_ns hL3 (q ▸ e) hb)
    have lie4 := hmv (fun x hx => hR x (List.mem_append_left _ hx)) lie
    have rest4 := rest.mono fun T v' d' hT _ y => hmv (fun x hx => hR x (List.mem_append_right _ (hT x hx))) y
    obtain ⟨nd1, nd2, nd12⟩ := List.nodup_append.mp nd
    refine ih X T (stays_trans hw0 F4.keep) (fun x hx => hS x (.tail _ (.tail _ (hR x (List.mem_append_left _ hx))))) (by walk_at "my room") (by walk_at "my room") lie4 nd1 (fun x hx => hZ x (.tail _ (.tail _ (hR x (List.mem_append_left _ hx)))))
      (fun x hx => let ⟨o, e⟩ := hZ0 x hx; ⟨o, F4.keep _ _ e⟩) fun h5 tk5 hk5 => ?_
    have hkx : ∀ x o, h4.get? x = some o → x ∉ S1 → h5.get? x = some o := fun x o e hx => hk5 x o e (.inl hx)
    have hS1 : ∀ x ∈ S1, x ∈ S := fun x hx => hR x (List.mem_append_left _ hx)
    have F5 := fr_keepX F4 hkx (fun x hx => hs0 x (hS1 x hx)) fun q => hLS (hS1 _ q)
    have N5 := news_keepX (S := S1) (news_sub (b := [(K, oI), (fd, of)]) N4 fun p hp => List.mem_append_left _ hp) hkx (by
      intro p hp q
      have q := hS1 _ q
      simp only [List.mem_cons, List.not_mem_nil, or_false] at hp
      rcases hp with rfl | rfl
      · exact hKS q
      · exact hfS q)
    refine wpAny_execs_nil (unhold ⟨h5, _, rfl, (N5 _ (.head _)).1, fun o e => ?_, _, S2, F5, fun p hp => N5 p (.tail _ hp), ?_, nd2, fun x hx => hR x (List.mem_append_right _ hx)⟩)
    · rw [e] at hl3; cases hl3
      exact (N5 (fd, of) (by simp)).1
    · refine rest4.mono fun T v' d' hT _ y => y.move (fun _ q => q) fun x o e hb => hk5 x o e ?_
      rcases hb with hb | hb | hb
      · exact .inl fun q => nd12 x q x (hT x hb) rfl
      · exact .inl fun q => hZ x (.tail _ (.tail _ (hS1 x q))) hb
      · exact .inr hb
  · rintro h' tk' ⟨u, R, F', N', r, nd, hR⟩
    clear F N r
    k_steps
    with_reducible rename Fr _ _ _ _ => F2
    with_reducible rename News _ _ _ _ => N2
    refine set_dictN (pre := []) (post := []) F2 N2 hod (by rw [sizeLine]; omega) (fun _ hp => absurd hp List.not_mem_nil) (fun _ hp => absurd hp List.not_mem_nil) fun h6 o6 F6 N6 ho6 _ => ?_
    clear F2 N2
    k_steps
    refine set_dictN (pre := []) (post := []) F6 N6 ho6 (Nat.le_trans (stored_len _ _ _) (by rw [sizeLine]; omega)) (fun _ hp => absurd hp List.not_mem_nil) (fun _ hp => absurd hp List.not_mem_nil) fun h7 o7 F7 N7 ho7 _ => ?_
    clear F6 N6
    k_steps
    exact hQ _ _ fun x o e hx => F7.keep _ _ (hin x o e fun hm => hx.elim (fun q => q (.tail _ hm)) (hhard x o hm e))

theorem spoil_ok : ∀ n, SpoilOk w n := by
  intro n
  induction n with
  | zero =>
    intro mean mg mb dp un fr gd E s Q Z S v d hw X T hws hS hdep hu hl hnd hZ hZl hQ
    have X' := X.keeps hws
    have T' := T.keeps hws
    cases d with
    | int i =>
      obtain ⟨rfl, t, rfl⟩ := hl
      exact spoil_int X' T' (by omega) fun h' tk k => hQ h' tk fun b o e _ => k b o e
    | none =>
      obtain ⟨rfl, rfl⟩ := hl
      exact spoil_none X' T' (by omega) fun h' tk k => hQ h' tk fun b o e _ => k b o e
    | cell c =>
      obtain ⟨rfl, a, dx, tk, rfl, H, hZ⟩ := hl
      exact spoil_cell X' T' (by omega) H fun h' tk k => hQ h' tk fun b o e _ => k b o e
    | _ => exact hl.elim
  | succ n ih =>
    intro mean mg mb dp un fr gd E s Q Z S v d hw X T hws hS hdep hu hl hnd hZ hZl hQ
    have X' := X.keeps hws
    have T' := T.keeps hws
    cases d with
    | int i =>
      obtain ⟨rfl, t, rfl⟩ := hl
      exact spoil_int X' T' (by omega) fun h' tk k => hQ h' tk fun b o e _ => k b o e
    | none =>
      obtain ⟨rfl, rfl⟩ := hl
      exact spoil_none X' T' (by omega) fun h' tk k => hQ h' tk fun b o e _ => k b o e
    | cell c =>
      obtain ⟨rfl, a, dx, tk, rfl, H, hZ⟩ := hl
      exact spoil_cell X' T' (by omega) H fun h' tk k => hQ h' tk fun b o e _ => k b o e
    | arr bs items =>
      obtain ⟨a, dx, b, l, vs, S', rfl, rfl, g1, g2, pa, pl, r, s1, s2⟩ := hl
      exact spoil_arr ih X T hws (by omega) (by omega) hS hnd hZ hZl g1 g2 pa pl r s1 s2 hQ
    | recd num fs =>
      obtain ⟨a, dx, fd, ty, tdx, tk, kvs, S', rfl, rfl, g1, g2, g3, hz, hd, hks, r, s1, s2, s3⟩ := hl
      exact spoil_rec ih X T hws (by omega) (by omega) hS hnd hZ hZl g2 hd hks r s1 s2 hQ
end
section
variable {prog : Program} {w : World} {A : Around} {E : Value → Shared → Prop} {h : Heap} {g : Array GenState} {d : Drawn} {t : Nat} {os : OsState}
variable {nm q : Str} {C N : Addr} {bs bm bmB : List Value} {hdct : Bool} {sn : List Str} {sub : List Value} {ab : Bool} {col : Option Bool} {dd : Option Addr} {k0 k1 k2 k3 k5 : Option Value} {B newId initId : String}

abbrev excObj (C t : Addr) (od : Option Addr) : Obj := { cls := .ref C, dict := od, data := .fields #[.ref t, .none, .none, .none, .bool false, .none] }

/-- an own class of exceptions with an own __init__ called: what a base of it is called does not matter -/
theorem exc_call (F : ExcBaseFacts B newId initId bmB) (hcB : (Value.ref C :: bm).contains (.type B) = true) (hcA : (Value.ref C :: bm).contains (.type "AttributeError") = false) (hcN : (Value.ref C :: bm).contains (.type "NameError") = false)
    {rest : List Value} {fI : Addr} {Q : Value → Shared → Prop} (hrest : rest.length ≤ sizeLine)
    (hC : h.get? C = some (excClassObj nm q C N bs bm hdct sn sub ab col dd k0 k1 k2 k3 k5 newId)) (hi : Looks (model prog w) h (typeLookup (.ref C) "__init__") (some (.ref fI)))
    (hf : ∀ self, Looks (model prog w) h (bindSpecial (.ref fI) self) (.ref fI, [self]))
    (hq : ∀ h' t', h.StaysIn h' → h'.get? (h.objs.size + 1) = some (excObj C t' none) → h'.objs.size = h.objs.size + 2 →
      codeAny (model prog w) (A.under (.builtin "type.__call__" ⟨.ref C :: rest, []⟩)) (.call (.ref fI) ⟨.ref (h.objs.size + 1) :: rest, []⟩) (fun r s' => match r with | .ok (.ret v) => v = .none ∧ Q (.ref (h.objs.size + 1)) s' | .ok _ => False | .error e => E e s') ⟨h', g, d, t, os⟩) :
    wpAny (model prog w) A (call (.ref C) rest) Q E ⟨h, g, d, t, os⟩ := by
  have f1 := tc_lookup
  have f2 := tc_bind (.ref C)
  have hT : (⟨h, g, d, t, os⟩ : Shared).TypeIs (.ref C) "type" := ⟨_, hC, rfl⟩
  refine wpAny_call (codeAny_of_tree ?_)
  show wpAny _ _ (callAny (.ref C) _) _ _ _
  repeat (any_goals (first | assumption | with_reducible refine wpAny_loadPart_at hC ?_ | wp_step))
  refine ⟨rfl, ?_⟩
  refine codeAny_call_builtin_at (Code.quiet_builtin _ (by decide +kernel)) entry_typeCall (wpAny_check_type_call_sub hC ?_)
  unfold Builtin.«type.__call__»
  repeat (first | with_reducible refine wpAny_loadPart_at hC ?_ | with_reducible refine wpAny_madeBy_exc hC ?_ | wp_step)
  refine codeAny_call_builtin_code (Code.quiet_builtin _ F.quiet) ?_
  have hstar := F.noStar
  simp only [checkBuiltinCall, F.newKind, F.newSplit, F.newRow]
  repeat (first | refine wpAny_loadPart_at hC ?_ | (refine wpAny_isSubtype_exc hC ?_; rw [hcB]) | refine wpAny_staticBase_exc hC ?_ | refine wpAny_madeBy_exc hC ?_ | simp only [bne_self_eq_false, Bool.false_eq_true, if_false] | wp_step)
  have hends := F.ends
  refine codeAny_builtinAt F.entry ?_
  unfold Builtin.«BaseException.__new__»
  refine PySem.wpAt_bind ?_
  show PySem.wpAt _ _ _ (stack >>= _) _ _ _
  refine PySem.wpAt_bind (PySem.wpAt_stack fun p below => PySem.wpAt_of_wpAny ?_)
  wp_walk
  refine PySem.wpAt_of_wpAny ?_
  rw [F.owner]
  repeat (first | with_reducible refine wpAny_madeHere_exc F.canon hC ?_ | with_reducible refine wpAny_loadPart_at hC ?_ | (with_reducible refine wpAny_isSubtype_exc hC ?_; first | rw [hcB] | rw [hcA] | rw [hcN]) | wp_step)
  have hget : ((h.push { cls := .type "tuple", data := .seq rest.toArray }).push (excObj C h.objs.size none)).get? (h.objs.size + 1) = some (excObj C h.objs.size none) := by heap_get
  have k : h.StaysIn ((h.push { cls := .type "tuple", data := .seq rest.toArray }).push (excObj C h.objs.size none)) := fun b o e => Heap.get?_push_of_some _ (Heap.get?_push_of_some _ e)
  have hC1 := k _ _ hC
  have hcC : (Value.ref C :: bm).contains (.ref C) = true := by simp
  have i1 := hi.keeps k
  have b1 := (hf (.ref (h.objs.size + 1))).keeps k
  show wpAny _ _ (isSubtype (.ref C) (.ref C)) _ _ ⟨(h.push { cls := .type "tuple", data := .seq rest.toArray }).push (excObj C h.objs.size none), g, d, t, os⟩
  refine wpAny_isSubtype_exc hC1 ?_
  rw [hcC]
  have t1 : Looks (model prog w) ((h.push { cls := .type "tuple", data := .seq rest.toArray }).push (excObj C h.objs.size none)) (typeOf (.ref (h.objs.size + 1))) (.ref C) := (Looks.ld hget).andThen .now
  rw [show (h.push { cls := Value.type "tuple", data := Data.seq ([].append rest).toArray }).objs.size = h.objs.size + 1 from Heap.size_push ..]
  unfold callSpecial? specialOf
  repeat (first | with_reducible refine wpAny_call ?_ | lk)
  refine codeAny_mono (hq _ _ k hget (by rw [Heap.size_push, Heap.size_push])) fun r s' z => ?_
  rcases r with e | (v | _ | _ | _) <;> first | exact z | exact z.elim | skip
  obtain ⟨rfl, z⟩ := z
  exact wpAny_pure (wpAny_pure z)
end
section
variable {prog : Program} {w : World} {A : Around} {E : Value → Shared → Prop} {s : Shared} {K : Frag} {x C : Addr} {R : Result → Shared → Prop}
open Builtin Builtin.ObjectAttr
theorem Inst.instAt {h : Heap} {mA : Str → Option Value} (I : h.Inst x C mA) : ∃ ox od, InstAt h x ox C od := by
  obtain ⟨o, hx, hc, hnc, hd⟩ := I
  have hn : notCls o = true := by
    unfold notCls
    split
    · rename_i c e; exact absurd e (hnc c)
    · rfl
  rcases hd with ⟨e, _⟩ | ⟨dx, e, _, ⟨oD, _, _, hD, _⟩⟩
  · exact ⟨o, none, hx, hc, hn, by rw [e]; trivial⟩
  · exact ⟨o, some oD, hx, hc, hn, by rw [e]; exact hD⟩

/-- an attribute of an instance of an own class of exceptions stored -/
theorem exc_set {cd : ClassData} {name : Str} {v : Value} {mA : Str → Option Value} {ns : List Str} {Q : Unit → Shared → Prop} (X : K.In s.heap) (I : s.heap.Inst x C mA)
    (hs : findIn K (.ref C) "__setattr__" = some (some (.builtin "object.__setattr__"))) (hc : clsIn K C = some cd) (hhd : cd.hasDict = true) (ne : cd.mro.isEmpty = false) (hob : cd.mro.contains (.type "object") = true)
    (hr : ∀ self, refuseLoop self "__setattr__" cd.mro = pure ()) (ht : takerIn K C name = some none) (hw : Within mA ns) (hsz : ns.length ≤ 100)
    (hq : ∀ h' tk', h'.Inst x C (fun y => if y = name then some v else mA y) →
      (∀ b o, b ≠ x → (∀ o₀ dx, s.heap.get? x = some o₀ → o₀.dict = some dx → b ≠ dx) → s.heap.get? b = some o → h'.get? b = some o) →
      (∀ o₀, s.heap.get? x = some o₀ → ∃ o₁, h'.get? x = some o₁ ∧ o₁.data = o₀.data) → (∀ o₀ o₁, s.heap.get? x = some o₀ → h'.get? x = some o₁ → (o₀.dict = none → ∀ dx, o₁.dict = some dx → s.heap.get? dx = none) ∧ ∀ dx, o₀.dict = some dx → o₁.dict = some dx) → Q () { s with heap := h', toks := tk' }) :
    wpAny (model prog w) A (setAttr (.ref x) name v) Q E s := by
  obtain ⟨ox, od, I'⟩ := Inst.instAt I
  refine set_plain X I' hs ?_
  have SF := PySem.F.store_object
  have sub : Looks (model prog w) s.heap (isInstance (.ref x) (.type "object")) true := I'.type.andThen (looks_mroIn X (by unfold mroIn; rw [hc, Option.bind_some, if_neg (by rw [ne]; decide), hob]))
  refine codeAny_call_builtin SF.slot.plain SF.entry (@check_slot (model prog w) _ _ _ "object.__setattr__" "object" "__setattr__" (.ref x) [.str name _, v] [] _ SF.kind SF.split sub (SF.args (.ref x) (.str name _) v) ?_)
  obtain ⟨attr, ha, hr'⟩ := Option.bind_eq_some_iff.mp ht
  have hm : Looks (model prog w) s.heap (mroOf (.ref C)) cd.mro := (looks_clsIn X hc).andThen .now
  have L3 : Looks (model prog w) s.heap (storeTaker? attr) none := by
    cases attr with
    | none => cases hr'; exact .now
    | some a =>
      obtain ⟨b, hb, e⟩ := Option.map_eq_some_iff.mp hr'
      refine (looks_takesIn X hb).andThen ?_
      cases b
      · exact .now
      · cases e
  obtain ⟨o, hx, hcl, hnc, hd⟩ := I
  obtain ⟨hp, g, dr, t, os⟩ := s
  have L1 := I'.type (M := model prog w)
  have L2 := looks_findIn (M := model prog w) X ha
  dsimp only at hx hd hq X L1 L2 L3 hm ⊢
  clear I'
  rw [osa_eq, refuse_eq]
  refine wpAny_bind (wpAny_bind (L1.at (wpAny_bind (hm.at ?_))))
  rw [hr]
  refine wpAny_pure (wpAny_bind (L1.at (wpAny_bind (L2.at (wpAny_bind (L3.at ?_))))))
  dsimp only
  repeat (first | (with_reducible refine wpAny_loadPart_at hx ?_; rw [hcl]) | wp_step)
  obtain ⟨cc, cdd, csl, hCo⟩ : ∃ cc cdd csl, hp.get? C = some ⟨cc, cdd, .cls cd, csl⟩ := by
    unfold clsIn at hc
    split at hc
    · rename_i q; cases hc; exact ⟨_, _, _, X _ _ q⟩
    · cases hc
  refine wpAny_load hCo (wpAny_pure ?_)
  rw [hhd]
  rcases hd with ⟨hdn, hmA⟩ | ⟨dx, hdx, hne, hns⟩
  · rw [hdn]
    dsimp only
    rw [if_neg (by decide), if_neg (by simp [typeHasDict])]
    split
    · rename_i c hcd
      exact absurd hcd (hnc c)
    · have hx₁ : (hp.push emptyDict).get? x = some o := Heap.get?_push_of_some _ hx
      have hxs : x ≠ hp.objs.size := Nat.ne_of_lt (Heap.lt_size hx)
      refine wpAny_bind (wpAny_alloc' ?_)
      refine wpAny_bind (wpAny_update' hx₁ ?_)
      refine wpAny_pure ?_
      have hgd : ((hp.push emptyDict).update x fun o => { cls := o.cls, dict := some hp.objs.size, data := o.data, slots := o.slots }).get? hp.objs.size = some emptyDict :=
        (Heap.get?_update_ne _ _ _ _ hxs.symm).trans (Heap.get?_push_at rfl rfl)
      have hnd : ((hp.push emptyDict).update x fun o => { cls := o.cls, dict := some hp.objs.size, data := o.data, slots := o.slots }).Ns hp.objs.size (fun _ => none) :=
        ⟨_, #[], _, hgd, rfl, fun e he => absurd he (by simp), fun _ => rfl⟩
      show wpAny _ _ (storeInDict hp.objs.size (.str name t) name v) _ _ _
      unfold storeInDict newKeyGuard
      refine wpAny_bind (wpAny_pure (wpAny_bind (wpAny_nsSet1 (Heap.Ns1.of_empty hnd) fun h' hn' hs' => ?_)))
      obtain ⟨oD, esD, epD, hoD, hdD, hcD⟩ := hn'.count (Within.cons name v Within.nil)
      refine wpAny_bind (wpAny_lookBehind hoD (by rw [hdD]; exact pastItsLine_dict (Nat.le_trans hcD (by rw [List.length_cons, List.length_nil, sizeLine_eq]; omega))) ?_)
      wp_walk
      have hx' : h'.get? x = some { cls := o.cls, dict := some hp.objs.size, data := o.data, slots := o.slots } := by
        refine (hs'.2 x hxs).trans (Heap.get?_update_self _ hx₁ ?_)
        have hfr := (Heap.get?_some_iff.mp hx).2
        obtain ⟨oc, od', odt, osl⟩ := o
        cases odt <;> first | rfl | exact hfr
      refine hq h' _ ⟨{ cls := o.cls, dict := some hp.objs.size, data := o.data, slots := o.slots }, hx', hcl, hnc, .inr ⟨hp.objs.size, rfl, hxs.symm, ?_⟩⟩ (fun b ob hbx _ hb => ?_)
        (fun o₀ h₀ => by obtain rfl : o = o₀ := Option.some.inj (hx.symm.trans h₀); exact ⟨_, hx', rfl⟩) ?_
      · obtain ⟨o', es, ep, e1, e2, e3, eu, e4⟩ := hn'
        exact ⟨o', es, ep, e1, e2, e3, eu, fun y => by rw [e4 y]; by_cases hy : y = name <;> simp [hy, hmA]⟩
      · exact (hs'.2 b (Nat.ne_of_lt (Heap.lt_size hb))).trans ((Heap.get?_update_ne _ _ _ _ hbx).trans (Heap.get?_push_of_some _ hb))
      · intro o₀ o₁ e0 e1
        rw [hx] at e0; cases e0
        rw [hx'] at e1; cases e1
        exact ⟨fun _ dx q => by cases q; exact Heap.get?_none_of_le (Nat.le_refl _), fun dx q => by rw [hdn] at q; cases q⟩
  · rw [hdx]
    dsimp only
    rw [if_neg (by decide)]
    refine wpAny_pure ?_
    show wpAny _ _ (storeInDict dx (.str name t) name v) _ _ _
    unfold storeInDict newKeyGuard
    refine wpAny_bind (wpAny_pure (wpAny_bind (wpAny_nsSet1 hns fun h' hn' hs' => ?_)))
    obtain ⟨oD, esD, epD, hoD, hdD, hcD⟩ := hn'.count (Within.cons name v hw)
    refine wpAny_bind (wpAny_lookBehind hoD (by rw [hdD]; exact pastItsLine_dict (Nat.le_trans hcD (by rw [List.length_cons, sizeLine_eq]; omega))) ?_)
    wp_walk
    refine hq h' _ ⟨o, (hs'.2 x hne.symm).trans hx, hcl, hnc, .inr ⟨dx, hdx, hne, hn'⟩⟩ (fun b ob _ hbd hb => ?_)
      (fun o₀ h₀ => ⟨o₀, (hs'.2 x hne.symm).trans h₀, rfl⟩) ?_
    · exact (hs'.2 b (hbd o dx hx hdx)).trans hb
    · intro o₀ o₁ e0 e1
      rw [hx] at e0; cases e0
      rw [(hs'.2 x hne.symm).trans hx] at e1; cases e1
      exact ⟨fun q => (by rw [hdx] at q; cases q), fun dx q => q⟩
end
section
variable {w : World} {dp un : Nat} {fr : Option (List Env)} {gd : Option (List Code)} {E : Value → Shared → Prop} {s : Shared} {Q : Value → Shared → Prop} {mean : ExcName → Option Value} {mg mb : Str → Option Value}

theorem cls70 : ∃ nm q N bs bm hdct sn sub ab col dd k0 k1 k2 k3 k5, (hd.heap_39 w.params).lookup 70 = some (excClassObj nm q 70 N bs bm hdct sn sub ab col dd k0 k1 k2 k3 k5 "Exception.__new__") ∧ (Value.ref 70 :: bm).contains (.type "Exception") = true ∧ (Value.ref 70 :: bm).contains (.type "AttributeError") = false ∧ (Value.ref 70 :: bm).contains (.type "NameError") = false ∧ bm.contains (.type "BaseException") = true :=
  ⟨_, _, _, _, _, _, _, _, _, _, _, _, _, _, _, _, rfl, by decide +kernel, by decide +kernel, by decide +kernel, by decide +kernel⟩
theorem cls70' : ∃ cd, clsIn (hd.heap_39 w.params) 70 = some cd ∧ cd.hasDict = true ∧ cd.mro.isEmpty = false ∧ cd.mro.contains (.type "object") = true ∧ ∀ self, refuseLoop self "__setattr__" cd.mro = pure () :=
  ⟨_, rfl, rfl, rfl, by decide +kernel, fun self => (refuseLoop_ref self _ 70 _).trans ((refuseLoop_ref self _ 31 _).trans (PySem.F.store_Exception.passes self))⟩

/-- an attribute of an AdaRaise stored -/
theorem set70 {A : Around} {x : Addr} {name : Str} {v : Value} {mA : Str → Option Value} {ns : List Str} {Q : Unit → Shared → Prop} (X : (hd.heap_39 w.params).In s.heap) (I : s.heap.Inst x 70 mA) (ht : takerIn (hd.heap_39 w.params) 70 name = some none) (hw : Within mA ns) (hsz : ns.length ≤ 100)
    (hq : ∀ h' tk', h'.Inst x 70 (fun y => if y = name then some v else mA y) →
      (∀ b o, b ≠ x → (∀ o₀ dx, s.heap.get? x = some o₀ → o₀.dict = some dx → b ≠ dx) → s.heap.get? b = some o → h'.get? b = some o) →
      (∀ o₀, s.heap.get? x = some o₀ → ∃ o₁, h'.get? x = some o₁ ∧ o₁.data = o₀.data) → (∀ o₀ o₁, s.heap.get? x = some o₀ → h'.get? x = some o₁ → (o₀.dict = none → ∀ dx, o₁.dict = some dx → s.heap.get? dx = none) ∧ ∀ dx, o₀.dict = some dx → o₁.dict = some dx) → Q () { s with heap := h', toks := tk' }) :
    wpAny (model PySem.Challenge.rw_xw0007_01.prog w) A (setAttr (.ref x) name v) Q E s := by
  obtain ⟨cd, h1, h2, h3, h4, h5⟩ := cls70' (w := w)
  exact exc_set X I (by k_is) h1 h2 h3 h4 h5 ht hw hsz hq
theorem tk70 : takerIn (hd.heap_39 w.params) 70 (Str.ofString "text") = some none ∧ takerIn (hd.heap_39 w.params) 70 (Str.ofString "name") = some none ∧ takerIn (hd.heap_39 w.params) 70 (Str.ofString "word") = some none ∧ takerIn (hd.heap_39 w.params) 70 (Str.ofString "line") = some none :=
  ⟨by k_is, by k_is, by k_is, by k_is⟩
theorem meta_Exc : typeOf (.type "Exception") = pure (.type "type") := by kernel_rfl
/-- the base's own __init__ -/
theorem base_init {A : Around} {h : Heap} {g : Array GenState} {d : Drawn} {t : Nat} {os : OsState} {e t0 : Addr} {v : Value} (X : (hd.heap_39 w.params).In h) (he : h.get? e = some (excObj 70 t0 none))
    (hq : ∀ h' t1, h.objs.size ≤ h'.objs.size → (∀ b o, b ≠ e → h.get? b = some o → h'.get? b = some o) → h'.get? e = some (excObj 70 t1 none) → Q .none ⟨h', g, d, t, os⟩) :
    wpAny (model PySem.Challenge.rw_xw0007_01.prog w) A (call (.builtin "Exception.__init__") [.ref e, v]) Q E ⟨h, g, d, t, os⟩ := by
  obtain ⟨nm, q, N, bs, bm, hdct, sn, sub, ab, col, dd, k0, k1, k2, k3, k5, hK, hcB, _, _, _⟩ := cls70 (w := w)
  have hC := X _ _ hK
  have F := PySem.F.excBase_Exception
  have hshort := F.noStar
  refine wpAny_call (codeAny_call_builtin F.init.plain F.initEntry ?_)
  simp only [checkBuiltinCall, F.initKind, F.initSplit, F.initRow]
  repeat (first | (with_reducible refine wpAny_loadPart_at he ?_) | with_reducible refine wpAny_loadPart_at hC ?_ | (with_reducible refine wpAny_isSubtype_exc hC ?_; rw [hcB]) | wp_step)
  show Q .none _
  have hp : (h.push { cls := .type "tuple", data := .seq #[v] }).get? e = some (excObj 70 t0 none) := Heap.get?_push_of_some _ he
  refine hq _ h.objs.size ?_ (fun b o hb e' => ?_) ?_
  · rw [Heap.size_after_update, Heap.size_push]; exact Nat.le_succ _
  · rw [Heap.get?_update_other _ _ (Ne.symm hb)]
    exact Heap.get?_push_of_some _ e'
  · rw [Heap.get?_update_self _ hp rfl]
    rfl
theorem init28 {h0 : Heap} {e t0 : Addr} {v : Value} (X : (hd.heap_39 w.params).In h0) (T : Top hd.view_39 (looseW hd.view_39 []) mean mg mb h0) (hb : h0.StaysIn s.heap) (hdep : dp + 3 < recursionLimit) (he : s.heap.get? e = some (excObj 70 t0 none)) (h0e : h0.get? e = none) (hsz : h0.objs.size ≤ s.heap.objs.size)
    (hQ : ∀ h' tk t1, h'.Inst e 70 (fun y => if y = Str.ofString "text" then some v else none) → (∀ b o, b ≠ e → s.heap.get? b = some o → h'.get? b = some o) → (∃ o, h'.get? e = some o ∧ o.data = (excObj 70 t1 none).data) → (∀ o dx, h'.get? e = some o → o.dict = some dx → s.heap.get? dx = none) → Q .none { s with heap := h', toks := tk }) :
    wpAny (model PySem.Challenge.rw_xw0007_01.prog w) (Ar dp un fr gd) (call (.ref 28) [.ref e, v]) Q E s := by
  refine' enterG [(Str.ofString "self", .ref e), (Str.ofString "text", v)] hb hsz (news := [(e, excObj 70 t0 none)]) (by intro p hp; rw [List.mem_singleton.mp hp]; exact ⟨he, h0e⟩) X T.nolimit (by omega) ?ho ?hcd ?hb ?hl ?hc ?h1 ?h2 ?h3 ?_
  case ho => k_is
  case hcd => k_is
  case hb => exact BindsTo.of_eq rfl
  case hl => exact locs rfl
  case hc => decide
  case h1 => rfl
  case h2 => rfl
  case h3 => rfl
  intro L h₁ hL hk1 F N
  k_fold
  k_steps
  refine' method_type ?F ?X meta_Exc (by decide +kernel) ?e ?h ?_
  case F => k_asm
  case X => k_asm
  case e => k_is
  case h => k_handed
  k_steps
  refine base_init (X.keeps F.keep) (N _ (.head _)).1 fun h2 t1 hsz2 hk2 he2 => ?_
  have F2 : Fr h0 L h2 _ := fr_at F hk2 (fun q => (N _ (.head _)).2.1 q.symm) h0e
  have N2 : News h0 L h2 [] := News.nil
  have hk02 : ∀ b o, b ≠ e → s.heap.get? b = some o → h2.get? b = some o := fun b o hb q => hk2 b o hb (hk1 b o q)
  clear F N
  k_steps
  refine set70 (X.keeps F2.keep) (mA := fun _ => none) (ns := []) ⟨_, he2, rfl, (fun c q => by cases q), .inl ⟨rfl, fun _ => rfl⟩⟩ tk70.1 Within.nil (by decide) fun h3 tk3 I3 hk3 hd3 hsz3 => ?_
  have hk3' : ∀ b o, b ≠ e → h2.get? b = some o → h3.get? b = some o := fun b o hb q => hk3 b o hb (fun o₀ dx q1 q2 => by rw [he2] at q1; cases q1; cases q2) q
  have F3 : Fr h0 L h3 _ := fr_at F2 hk3' (fun q => by have := Heap.lt_size (he); rw [hL] at q; exact absurd q.symm (Nat.ne_of_lt this)) h0e
  have N3 : News h0 L h3 [] := News.nil
  clear F2 N2
  k_steps
  refine hQ _ _ t1 I3 (fun b o hb q => hk3' b o hb (hk02 b o hb q)) (let ⟨o, a, b⟩ := hd3 _ he2; ⟨o, a, b⟩) fun o dx q1 q2 => ?_
  have q := (hsz3 _ o he2 q1).1 rfl dx q2
  cases q5 : s.heap.get? dx with
  | none => rfl
  | some o5 =>
    by_cases q6 : dx = e
    · rw [q6, he2] at q; cases q
    · rw [hk02 dx o5 q6 q5] at q; cases q
end
theorem enterGR {w : World} {dp un : Nat} {fr : Option (List Env)} {gd : Option (List Code)} {R : Result → Shared → Prop} {s : Shared} {f : Addr} {args : List Value}
    {name qual : Str} {params : Arguments} {body : List Stmt} {scope : Scope} {dV kV doc pm cdv ct oc : Value} {an od : Option Addr} {osl : Array (Option Value)} {h₀ : Heap} {news : List (Addr × Obj)}
    (binds : List (Str × Value)) (hb : h₀.StaysIn s.heap) (hsz : h₀.objs.size ≤ s.heap.objs.size) (hN : ∀ p ∈ news, s.heap.get? p.1 = some p.2 ∧ h₀.get? p.1 = none)
    (X : (hd.heap_39 w.params).In h₀) (hlim : h₀.NoLimit) (hroom : dp < recursionLimit)
    (ho : (hd.heap_39 w.params).lookup f = some ⟨oc, od, .func (fnX name qual params body scope [] dV kV doc pm an cdv ct), osl⟩) (hcd : codeIn (hd.heap_39 w.params) cdv qual = true)
    (hbind : BindsTo s (fnX name qual params body scope [] dV kV doc pm an cdv ct) ⟨args, []⟩ binds) (hloc : ∀ y ∈ binds, scope.names.lookup y.1 = some .local)
    (hcell : ∀ x ∈ scope.names, x.2 ≠ .cell) (hco : scope.isCoroutine = false) (hgen : scope.isGenerator = false) (hk : scope.kind = .function)
    (h : ∀ L h₁, L = s.heap.objs.size → s.heap.StaysIn h₁ → Fr h₀ L h₁ (fun y => binds.reverse.lookup y) → News h₀ L h₁ news →
      wpAny (model PySem.Challenge.rw_xw0007_01.prog w) ((Ar dp un fr gd).deeper (envX qual scope L f cdv [])) (execs body (envX qual scope L f cdv []))
        (fun fl s' => R (.ok (.ret (match fl with | .ret v => v | _ => .none))) s')
        (fun e s' => wpAny (model PySem.Challenge.rw_xw0007_01.prog w) ((Ar dp un fr gd).deeper (envX qual scope L f cdv [])) (leaving (envX qual scope L f cdv []) e) (fun _ s'' => R (.error e) s'') (fun e' s'' => R (.error e') s'') s')
        { s with heap := h₁, toks := s.toks + binds.length }) :
    codeAny (model PySem.Challenge.rw_xw0007_01.prog w) (Ar dp un fr gd) (.call (.ref f) ⟨args, []⟩) R s := by
  refine codeAny_call_def (fd := fnX name qual params body scope [] dV kV doc pm an cdv ct) (body := body) (binds := binds) hroom (X.keeps hb _ _ ho) rfl (hlim.keeps hb) (codeRec_of (X.keeps hb) hcd) rfl hbind hcell hloc (fun h₁ hns hk₁ => ?_) hco hgen hk
  exact h _ h₁ rfl hk₁ ⟨hns, stays_trans hb hk₁, hsz⟩ (fun p hp => ⟨hk₁ _ _ (hN p hp).1, Nat.ne_of_lt (Heap.lt_size (hN p hp).1), (hN p hp).2⟩)
section
variable {w : World} {dp un : Nat} {fr : Option (List Env)} {gd : Option (List Code)} {E : Value → Shared → Prop} {s : Shared} {Q : Value → Shared → Prop} {mean : ExcName → Option Value} {mg mb : Str → Option Value}
theorem lookIn_of_ns {h : Heap} {a : Addr} {m : Str → Option Value} {name : Str} {v : Value} (x : h.Ns a m) (e : m name = some v) : ∃ o, h.get? a = some o ∧ lookIn name o = some (some v) := by
  obtain ⟨o, es, ep, ho, hd, _, f⟩ := x
  refine ⟨o, ho, ?_⟩
  have := f name
  rw [e] at this
  unfold nsFind findBy at this
  unfold lookIn
  rw [hd]
  dsimp only
  rw [Array.find?_toList]
  obtain ⟨en, h1, h2⟩ := Option.map_eq_some_iff.mp this
  rw [h1]
  dsimp only at h2 ⊢
  rw [h2]

/-- what a made AdaRaise is -/
structure Made (h : Heap) (e : Addr) (v : Value) (t1 dx : Addr) (sl : Array (Option Value)) : Prop where
  obj : h.get? e = some ⟨.ref 70, some dx, .fields #[.ref t1, .none, .none, .none, .bool false, .none], sl⟩
  word : ∃ od, h.get? dx = some od ∧ lookIn (Str.ofString "word") od = some (some v)

theorem init67 {h0 : Heap} {e t0 : Addr} {v1 v2 v3 : Value} (X : (hd.heap_39 w.params).In h0) (T : Top hd.view_39 (looseW hd.view_39 []) mean mg mb h0) (hb : h0.StaysIn s.heap) (hdep : dp + 5 < recursionLimit) (he : s.heap.get? e = some (excObj 70 t0 none)) (h0e : h0.get? e = none) (hsz : h0.objs.size ≤ s.heap.objs.size)
    {R : Result → Shared → Prop} (hQ : ∀ h' tk t1 dx sl, (∀ b o, b ≠ e → s.heap.get? b = some o → h'.get? b = some o) → Made h' e v1 t1 dx sl → R (.ok (.ret .none)) { s with heap := h', toks := tk }) :
    codeAny (model PySem.Challenge.rw_xw0007_01.prog w) (Ar dp un fr gd) (.call (.ref 67) ⟨[.ref e, v1, v2, v3], []⟩) R s := by
  refine' enterGR [(Str.ofString "self", .ref e), (Str.ofString "name", v1), (Str.ofString "line", v2), (Str.ofString "text", v3)] hb hsz (news := [(e, excObj 70 t0 none)]) (by intro p hp; rw [List.mem_singleton.mp hp]; exact ⟨he, h0e⟩) X T.nolimit (by omega) ?ho ?hcd ?hb ?hl ?hc ?h1 ?h2 ?h3 ?_
  case ho => k_is
  case hcd => k_is
  case hb => exact BindsTo.of_eq rfl
  case hl => exact locs rfl
  case hc => decide
  case h1 => rfl
  case h2 => rfl
  case h3 => rfl
  intro L h₁ hL hk1 F N
  k_fold
  have heL : e ≠ L := (N _ (.head _)).2.1
  k_steps
  apply unhold
  refine init28 X T F.keep (by walk_at "my room") (N _ (.head _)).1 h0e (Nat.le_trans (Nat.le_of_lt (Nat.lt_of_le_of_lt F.above F.ns.lt)) (Nat.le_refl _)) fun h2 tk2 t1 I2 hk2 hd2 hf2 => ?_
  have F2 : Fr h0 L h2 _ := fr_at F hk2 heL.symm h0e
  have N2 : News h0 L h2 [] := News.nil
  have hI := I2
  obtain ⟨o2, hx2, hc2, _, ⟨_, q⟩ | ⟨dx, hdx, hdne, hns2⟩⟩ := hI
  · exact absurd (q (Str.ofString "text")) (by simp)
  have hdf : h₁.get? dx = none := hf2 _ _ hx2 hdx
  have hdL : L ≠ dx := fun q => by obtain ⟨o, _, _, ho, _⟩ := F.ns; rw [← q, ho] at hdf; cases hdf
  have h0d : h0.get? dx = none := stays_none F.keep hdf
  have hks : ∀ b o, s.heap.get? b = some o → b ≠ dx := fun b o q z => by rw [z] at q; rw [hk1 _ _ q] at hdf; cases hdf
  have step : ∀ {ha hb : Heap} {m : Str → Option Value}, Fr h0 L ha m → (∀ b o, b ≠ e → (∀ o₀ dx, ha.get? e = some o₀ → o₀.dict = some dx → b ≠ dx) → ha.get? b = some o → hb.get? b = some o) → (∀ o₀, ha.get? e = some o₀ → o₀.dict = some dx) → Fr h0 L hb m := by
    intro ha hb m Fa k hdd
    have k' : ∀ b o, ha.get? b = some o → b ∉ [e, dx] → hb.get? b = some o := fun b o q nm => k b o (fun z => nm (by rw [z]; exact .head _)) (fun o₀ dx' q1 q2 z => nm (by have := hdd _ q1; rw [q2] at this; cases this; rw [z]; exact .tail _ (.head _))) q
    exact fr_keepX Fa k' (fun x hx => by rcases List.mem_cons.mp hx with rfl | hx; exact h0e; rw [List.mem_singleton.mp hx]; exact h0d) (fun hm => by rcases List.mem_cons.mp hm with q | hm; exact heL q.symm; exact hdL (List.mem_singleton.mp hm))
  clear F N
  have hdd2 : ∀ o₀, h2.get? e = some o₀ → o₀.dict = some dx := fun o₀ q => by rw [hx2] at q; cases q; exact hdx
  have hk2' : ∀ b o, b ≠ e → s.heap.get? b = some o → h2.get? b = some o := fun b o hb q => hk2 b o hb (hk1 _ _ q)
  k_steps
  refine set70 (X.keeps F2.keep) I2 tk70.2.1 (Within.cons (Str.ofString "text") v3 Within.nil) (by simp) fun h3 tk3 I3 k3 d3 f3 => ?_
  have F3 : Fr h0 L h3 _ := step F2 k3 hdd2
  have N3 : News h0 L h3 [] := News.nil
  have hdd3 : ∀ o₀, h3.get? e = some o₀ → o₀.dict = some dx := fun o₀ q => (f3 _ _ hx2 q).2 _ (hdd2 _ hx2)
  obtain ⟨o3, hx3, hdt3⟩ := d3 _ hx2
  have hk3' : ∀ b o, b ≠ e → s.heap.get? b = some o → h3.get? b = some o := fun b o hb q => k3 b o hb (fun o₀ dx' q1 q2 => by rw [hdd2 _ q1] at q2; cases q2; exact hks _ _ q) (hk2' b o hb q)
  clear F2 N2
  k_steps
  refine set70 (X.keeps F3.keep) I3 tk70.2.2.1 (Within.cons (Str.ofString "name") v1 (Within.cons (Str.ofString "text") v3 Within.nil)) (by simp) fun h4 tk4 I4 k4 d4 f4 => ?_
  have F4 : Fr h0 L h4 _ := step F3 k4 hdd3
  have N4 : News h0 L h4 [] := News.nil
  have hdd4 : ∀ o₀, h4.get? e = some o₀ → o₀.dict = some dx := fun o₀ q => (f4 _ _ hx3 q).2 _ (hdd3 _ hx3)
  obtain ⟨o4, hx4, hdt4⟩ := d4 _ hx3
  have hk4' : ∀ b o, b ≠ e → s.heap.get? b = some o → h4.get? b = some o := fun b o hb q => k4 b o hb (fun o₀ dx' q1 q2 => by rw [hdd3 _ q1] at q2; cases q2; exact hks _ _ q) (hk3' b o hb q)
  clear F3 N3
  k_steps
  refine set70 (X.keeps F4.keep) I4 tk70.2.2.2 (Within.cons (Str.ofString "word") v1 (Within.cons (Str.ofString "name") v1 (Within.cons (Str.ofString "text") v3 Within.nil))) (by simp) fun h5 tk5 I5 k5 d5 f5 => ?_
  have F5 : Fr h0 L h5 _ := step F4 k5 hdd4
  have N5 : News h0 L h5 [] := News.nil
  have hdd5 : ∀ o₀, h5.get? e = some o₀ → o₀.dict = some dx := fun o₀ q => (f5 _ _ hx4 q).2 _ (hdd4 _ hx4)
  obtain ⟨o5, hx5, hdt5⟩ := d5 _ hx4
  have hk5' : ∀ b o, b ≠ e → s.heap.get? b = some o → h5.get? b = some o := fun b o hb q => k5 b o hb (fun o₀ dx' q1 q2 => by rw [hdd4 _ q1] at q2; cases q2; exact hks _ _ q) (hk4' b o hb q)
  clear F4 N4
  k_steps
  obtain ⟨o', hx', hc', _, ⟨_, q⟩ | ⟨dx', hdx', _, hns'⟩⟩ := I5
  · exact absurd (q (Str.ofString "line")) (by simp)
  rw [hx5] at hx'; cases hx'
  obtain ⟨o2', hx2', hd2'⟩ := hd2
  rw [hx2] at hx2'; cases hx2'
  obtain ⟨oc, od, odt, osl⟩ := o5
  dsimp only at hdt5 hc'
  have hd5 := hdd5 _ hx5
  rw [hdx'] at hd5; cases hd5
  refine hQ _ _ t1 dx osl hk5' ⟨?_, ?_⟩
  · rw [hx5, hdt5, hdt4, hdt3, hd2', hc', show od = some dx from hdx']
  · exact lookIn_of_ns hns'.ns (by simp only [if_neg (show ¬ (Str.ofString "word" = Str.ofString "line") by decide), if_pos])
theorem new_ada (X : (hd.heap_39 w.params).In s.heap) (T : Top hd.view_39 (looseW hd.view_39 []) mean mg mb s.heap) (hdep : dp + 7 < recursionLimit) {v1 v2 v3 : Value}
    (hQ : ∀ h' tk e t1 dx sl, s.heap.StaysIn h' → s.heap.get? e = none → Made h' e v1 t1 dx sl → Q (.ref e) { s with heap := h', toks := tk }) :
    wpAny (model PySem.Challenge.rw_xw0007_01.prog w) (Ar dp un fr gd) (call (.ref 70) [v1, v2, v3]) Q E s := by
  obtain ⟨nm, q, N, bs, bm, hdct, sn, sub, ab, col, dd, k0, k1, k2, k3, k5, hK, hcB, hcA, hcN, _⟩ := cls70 (w := w)
  have hC := X _ _ hK
  obtain ⟨h, g, d, t, os⟩ := s
  refine exc_call PySem.F.excBase_Exception hcB hcA hcN (show 3 ≤ sizeLine by rw [sizeLine_eq]; decide) hC (looks_findIn X (by k_is)) (fun self => bind_fn X self (by k_is)) fun h1 t1 k1 he hsz => ?_
  refine init67 X T k1 ?_ he (Heap.get?_none_of_le (Nat.le_succ _)) (by rw [hsz]; exact Nat.le_add_right _ _) fun h2 tk t2 dx sl k2 hM => ?_
  · show (Around.under (Ar dp un fr gd) (Code.builtin "type.__call__" ⟨.ref 70 :: [v1, v2, v3], []⟩)).depth + 5 < recursionLimit
    rw [depth_under_make]
    show dp + 1 + 5 < recursionLimit
    omega
  · exact ⟨rfl, hQ _ _ _ _ _ _ (fun b o e => k2 b o (Nat.ne_of_lt (Nat.lt_succ_of_lt (Heap.lt_size e))) (k1 _ _ e)) (Heap.get?_none_of_le (Nat.le_succ _)) hM⟩
end
/-- kept, but for the slots of what is in fs -/
def Up (fs : List Addr) (h h' : Heap) : Prop := ∀ b o, h.get? b = some o → (b ∉ fs → h'.get? b = some o) ∧ ∃ sl, h'.get? b = some { o with slots := sl }
theorem Up.of_stays {fs : List Addr} {h h' : Heap} (k : h.StaysIn h') : Up fs h h' := fun b o e => ⟨fun _ => k _ _ e, o.slots, k _ _ e⟩
theorem Up.trans {fs : List Addr} {h h' h'' : Heap} (x : Up fs h h') (y : Up fs h' h'') : Up fs h h'' := fun b o e => by
  obtain ⟨x1, sl, x2⟩ := x b o e
  obtain ⟨_, sl', y2⟩ := y b _ x2
  exact ⟨fun hb => (y b o (x1 hb)).1 hb, sl', y2⟩
theorem Up.funFrames {fs : List Addr} {h h' base : Heap} {l : List Env} (x : Up fs h h') (y : h.FunFrames base l) : h'.FunFrames base l :=
  y.of_keeps fun b o e _ => let ⟨_, sl, q⟩ := x b o e; ⟨_, q, rfl⟩
theorem Up.ns {fs : List Addr} {h h' : Heap} {a : Addr} {m : Str → Option Value} (x : Up fs h h') (y : h.Ns a m) : h'.Ns a m := by
  obtain ⟨o, es, ep, ho, hd, r⟩ := y
  obtain ⟨_, sl, q⟩ := x a o ho
  exact ⟨_, es, ep, q, hd, r⟩

/-- an AdaRaise at e; vs: its fields -/
def ExcAt (h : Heap) (e : Addr) (v : Value) (vs : Array Value) : Prop :=
  ∃ dx sl od, h.get? e = some ⟨.ref 70, some dx, .fields vs, sl⟩ ∧ h.get? dx = some od ∧ lookIn (Str.ofString "word") od = some (some v)
theorem ExcAt.change {h h' : Heap} {e : Addr} {v : Value} {vs vs' : Array Value} (x : ExcAt h e v vs) (k : ∀ b o, b ≠ e → h.get? b = some o → (∀ f, o.data ≠ .fields f) → ∃ sl, h'.get? b = some { o with slots := sl })
    (k' : ∀ dx sl, h.get? e = some ⟨.ref 70, some dx, .fields vs, sl⟩ → ∃ sl', h'.get? e = some ⟨.ref 70, some dx, .fields vs', sl'⟩) : ExcAt h' e v vs' := by
  obtain ⟨dx, sl, od, h1, h2, h3⟩ := x
  obtain ⟨sl', h4⟩ := k' dx sl h1
  have hdict : ∀ f, od.data ≠ .fields f := fun f q => by unfold lookIn at h3; rw [q] at h3; cases h3
  obtain ⟨sl2, h5⟩ := k dx od (fun q => by rw [q, h1] at h2; cases h2; exact hdict _ rfl) h2 hdict
  exact ⟨dx, sl', _, h4, h5, h3⟩

structure Fly (h₀ : Heap) (fs : List Addr) (e : Addr) (v fl : Value) (h : Heap) : Prop where
  up : Up fs h₀ h
  new : h₀.get? e = none
  exc : ∃ vs T oT ts, ExcAt h e v vs ∧ vs[1]? = some (.ref T) ∧ h₀.get? T = none ∧ T ≠ e ∧ h.get? T = some oT ∧ oT.data = .fields ts ∧ ts[3]? = some fl

def frs (l : List Env) : List Addr := l.filterMap (·.frame)

section
variable {M : Model} {A : Around} {E : Value → Shared → Prop} {s : Shared}

/-- an entry of the traceback added -/
theorem fly_entry {base h₀ : Heap} {env : Env} {outer : List Env} {L e : Addr} {vs : Array Value} {head v : Value} {hadNext : Bool} {Q : Unit → Shared → Prop}
    (hfr : A.frames = some (env :: outer)) (hl : s.heap.FunFrames base (env :: outer)) (hf : env.frame = some L)
    (hx : ExcAt s.heap e v vs) (hsz : 1 < vs.size) (hu : Up (frs (env :: outer)) h₀ s.heap) (hen : h₀.get? e = none)
    (h : ∀ h', Fly h₀ (frs (env :: outer)) e v (rawInt L) h' → Q () { s with heap := h' }) :
    wpAny M A (do let a ← frameOf env; let pl ← entryPlaceOf L hadNext; let b ← EntryCells.newEntry head a .none (rawInt L) .none pl; setField (.ref e) 1 b) Q E s := by
  have hx0 := hx
  obtain ⟨dx, sl, od, he, hod, hlk⟩ := hx
  have hene : e ∉ (env :: outer).filterMap (·.frame) := fun hm => by
    obtain ⟨_, o, ho, hnf⟩ := hl.mem hm
    rw [he] at ho; cases ho; exact hnf vs rfl
  refine wpAny_bind (wpAny_frameOf_fun hfr hl hf fun h₁ hs₁ => ?_)
  refine wpAny_bind (wpAny_entryPlaceOf fun pl hpl => ?_)
  unfold EntryCells.newEntry newFields
  refine wpAny_bind (wpAny_newObj_type ?_ (hpl.sizeOk5 _ _ _ _ _))
  have he₁ := (hs₁.2.1 e hene).trans he
  generalize hT : ({ cls := .type "traceback", dict := none, data := .fields ([head, .ref L, .none, rawInt L, .none] ++ (if pl.isEmpty then List.replicate 6 Value.none else pl)).toArray } : Obj) = oT
  have he₂ := Heap.get?_push_of_some (h := h₁) oT he₁
  have hTe : h₁.objs.size ≠ e := Nat.ne_of_gt (Heap.lt_size he₁)
  have hTn : h₁.get? h₁.objs.size = none := Heap.get?_none_of_le (Nat.le_refl _)
  have u1 : Up (frs (env :: outer)) s.heap h₁ := fun b o e => ⟨fun hb => (hs₁.2.1 b hb).trans e, hs₁.2.2 b o e⟩
  have hTs : h₀.get? h₁.objs.size = none := by
    cases q : h₀.get? h₁.objs.size with
    | none => rfl
    | some o => obtain ⟨_, sl, q2⟩ := (hu.trans u1) _ _ q; rw [hTn] at q2; cases q2
  refine wpAny_setField he₂ rfl hsz (h _ ?_)
  have hd₃ : ∀ x : Obj, x.data = .fields vs → (Obj.mapFields (·.setIfInBounds 1 (Value.ref h₁.objs.size)) x).data = .fields (vs.setIfInBounds 1 (Value.ref h₁.objs.size)) := fun x q => Obj.data_mapFields q _
  have keep : ∀ b o, b ≠ e → h₁.get? b = some o → ((h₁.push oT).update e (Obj.mapFields (·.setIfInBounds 1 (Value.ref h₁.objs.size)))).get? b = some o := fun b o hbe hb => by
    rw [Heap.get?_update_other _ _ (Ne.symm hbe)]
    exact Heap.get?_push_of_some _ hb
  refine ⟨?_, hen, vs.setIfInBounds 1 (Value.ref h₁.objs.size), h₁.objs.size, oT, _, ?_, by simp [hsz], hTs, hTe, ?_, by rw [← hT], ?_⟩
  · intro b o q
    have hbe : b ≠ e := fun z => by rw [z, hen] at q; cases q
    obtain ⟨q1, sl, q2⟩ := (hu.trans u1) b o q
    exact ⟨fun hb => keep b o hbe (q1 hb), sl, keep b _ hbe q2⟩
  · refine hx0.change (fun b o hb q _ => ?_) fun dx' sl' q => ?_
    · obtain ⟨_, sl, q2⟩ := u1 b o q
      exact ⟨sl, keep b _ hb q2⟩
    · rw [he] at q; cases q
      exact ⟨sl, Heap.get?_update_self _ he₂ (by rfl)⟩
  · rw [Heap.get?_update_other _ _ (Ne.symm hTe)]
    exact Heap.get?_push_at rfl (by rw [← hT]; rfl)
  · first | (simp; done) | (rcases hpl with rfl | ⟨_, _, _, _, _, _, _, rfl⟩ <;> simp)

theorem fly_first {base h₀ : Heap} {env : Env} {outer : List Env} {L e : Addr} {vs : Array Value} {v : Value} {Q : Unit → Shared → Prop}
    (hfr : A.frames = some (env :: outer)) (hl : s.heap.FunFrames base (env :: outer)) (hf : env.frame = some L)
    (hx : ExcAt s.heap e v vs) (h1 : vs[1]? = some .none) (hu : Up (frs (env :: outer)) h₀ s.heap) (hen : h₀.get? e = none)
    (h : ∀ h', Fly h₀ (frs (env :: outer)) e v (rawInt L) h' → Q () { s with heap := h' }) : wpAny M A (noteFrame (.ref e) env) Q E s := by
  obtain ⟨dx, sl, od, he, _⟩ := id hx
  unfold noteFrame
  simp only [hf]
  refine wpAny_bind (wpAny_field he rfl h1 ?_)
  rw [if_neg (by decide)]
  exact fly_entry hfr hl hf hx (Array.getElem?_eq_some_iff.mp h1).1 hu hen h

theorem fly_look {base h₀ : Heap} {env : Env} {outer : List Env} {L e : Addr} {v : Value} {Q : Unit → Shared → Prop}
    (hfr : A.frames = some (env :: outer)) (hl : s.heap.FunFrames base (env :: outer)) (hf : env.frame = some L)
    (hx : Fly h₀ (frs (env :: outer)) e v .none s.heap)
    (h : ∀ h', Fly h₀ (frs (env :: outer)) e v (rawInt L) h' → Q () { s with heap := h' }) : wpAny M A (noteFrame (.ref e) env) Q E s := by
  obtain ⟨hu, hen, vs, T, oT, ts, hx, h1, hnT, hTe, hT, hdT, h3⟩ := hx
  obtain ⟨dx, sl, od, he, _⟩ := id hx
  unfold noteFrame
  simp only [hf]
  refine wpAny_bind (wpAny_field he rfl h1 ?_)
  rw [if_pos (show (Value.ref T != Value.none) = true from by simp)]
  refine wpAny_bind (wpAny_field hT hdT h3 ?_)
  rw [if_neg (show ¬ ((Value.none == rawInt L) = true) from by simp [rawInt])]
  refine wpAny_bind (wpAny_setField hT hdT (Array.getElem?_eq_some_iff.mp h3).1 ?_)
  have other : ∀ b, b ≠ T → (s.heap.update T (Obj.mapFields (·.setIfInBounds 3 Value.none))).get? b = s.heap.get? b := fun b hb => Heap.get?_update_other _ _ (Ne.symm hb)
  have noRecord : ∀ b o, s.heap.get? b = some o → (∀ vs, o.data ≠ .fields vs) → b ≠ T := fun b o hb hnf q => by
    rw [q, hT] at hb; cases hb; exact hnf ts hdT
  refine fly_entry hfr (hl.of_keeps fun b o hb hnf => ⟨o, (other b (noRecord b o hb hnf)).trans hb, rfl⟩) hf (hx.change (fun b o _ hb hnf => ⟨o.slots, (other b (noRecord b o hb hnf)).trans hb⟩) fun dx' sl' q => ⟨sl', (other e (Ne.symm hTe)).trans q⟩) (Array.getElem?_eq_some_iff.mp h1).1
    (fun b o q => ?_) hen h
  have hb : b ≠ T := fun z => by rw [z, hnT] at q; cases q
  obtain ⟨q1, sl, q2⟩ := hu b o q
  exact ⟨fun m => (other b hb).trans (q1 m), sl, (other b hb).trans q2⟩

theorem fly_lands {h₀ : Heap} {fs : List Addr} {e : Addr} {v fl : Value} {Q : Unit → Shared → Prop} (hx : Fly h₀ fs e v fl s.heap)
    (h : ∀ h', Fly h₀ fs e v .none h' → (∀ base l, s.heap.FunFrames base l → h'.FunFrames base l) → Q () { s with heap := h' }) : wpAny M A (setFlight (.ref e) none) Q E s := by
  obtain ⟨hu, hen, vs, T, oT, ts, hx, h1, hnT, hTe, hT, hdT, h3⟩ := hx
  obtain ⟨dx, sl, od, he, _⟩ := id hx
  have hsz3 : 3 < ts.size := (Array.getElem?_eq_some_iff.mp h3).1
  have other : ∀ b, b ≠ T → (s.heap.update T (Obj.mapFields (·.setIfInBounds 3 ((none : Option Addr).elim Value.none fun f => rawInt f)))).get? b = s.heap.get? b := fun b hb => Heap.get?_update_other _ _ (Ne.symm hb)
  have noRecord : ∀ b o, s.heap.get? b = some o → (∀ vs, o.data ≠ .fields vs) → b ≠ T := fun b o hb hnf q => by
    rw [q, hT] at hb; cases hb; exact hnf ts hdT
  unfold setFlight
  refine wpAny_bind (wpAny_field he rfl h1 ?_)
  rw [if_pos (show (Value.ref T != Value.none) = true from by simp)]
  refine wpAny_setField hT hdT hsz3 (h _ ⟨fun b o q => ?_, hen, vs, T, _, _, hx.change (fun b o _ hb hnf => ⟨o.slots, (other b (noRecord b o hb hnf)).trans hb⟩) fun dx' sl' q => ⟨sl', (other e (Ne.symm hTe)).trans q⟩, h1, hnT, hTe, Heap.get?_update_self _ hT (Obj.isFreed_of_fields (Obj.data_mapFields hdT _)), Obj.data_mapFields hdT _, by simp [hsz3]⟩
    fun base l y => y.of_keeps fun b o hb hnf => ⟨o, (other b (noRecord b o hb hnf)).trans hb, rfl⟩)
  have hb : b ≠ T := fun z => by rw [z, hnT] at q; cases q
  obtain ⟨q1, sl, q2⟩ := hu b o q
  exact ⟨fun m => (other b hb).trans (q1 m), sl, (other b hb).trans q2⟩

theorem fly_again {h₀ : Heap} {fs : List Addr} {env : Env} {L e : Addr} {v : Value} {Q : Unit → Shared → Prop} (hf : env.frame = some L) (hx : Fly h₀ fs e v (rawInt L) s.heap) (h : Q () s) : wpAny M A (noteFrame (.ref e) env) Q E s := by
  obtain ⟨hu, hen, vs, T, oT, ts, hx, h1, hnT, hTe, hT, hdT, h3⟩ := hx
  obtain ⟨dx, sl, od, he, _⟩ := id hx
  unfold noteFrame
  simp only [hf]
  refine wpAny_bind (wpAny_field he rfl h1 ?_)
  rw [if_pos (show (Value.ref T != Value.none) = true from by simp)]
  refine wpAny_bind (wpAny_field hT hdT h3 ?_)
  rw [if_pos (show (rawInt L == rawInt L) = true from by simp)]
  exact wpAny_pure h

/-- out of the frame L: what was kept below stays so -/
theorem Fly.out {h₀ h h' : Heap} {env : Env} {outer : List Env} {L e : Addr} {v fl : Value} {m : Str → Option Value} (F : Fr h₀ L h m) (hf : env.frame = some L) (x : Fly h (frs (env :: outer)) e v fl h') : Fly h₀ (frs outer) e v fl h' := by
  obtain ⟨hu, hen, vs, T, oT, ts, r1, r2, hnT, r3⟩ := x
  refine ⟨fun b o q => ?_, stays_none F.keep hen, vs, T, oT, ts, r1, r2, stays_none F.keep hnT, r3⟩
  have hb : b ≠ L := fun z => absurd (Nat.lt_of_lt_of_le (Heap.lt_size (z ▸ q)) F.above) (Nat.lt_irrefl _)
  obtain ⟨q1, q2⟩ := hu b o (F.keep _ _ q)
  refine ⟨fun hm => q1 fun hm' => ?_, q2⟩
  unfold frs at hm'
  rw [List.filterMap_cons, hf] at hm'
  rcases List.mem_cons.mp hm' with z | z
  · exact hb z
  · exact hm z

/-- the first frame is left -/
theorem leave_made {base h₀ : Heap} {env : Env} {outer : List Env} {L e t1 dx : Addr} {sl : Array (Option Value)} {v : Value} {m : Str → Option Value} {Q : Unit → Shared → Prop} {h : Heap}
    (hfr : A.frames = some (env :: outer)) (hl : h.FunFrames base (env :: outer)) (hf : env.frame = some L) (F : Fr h₀ L h m) (hk : h.StaysIn s.heap) (hx : Made s.heap e v t1 dx sl) (hen : h.get? e = none)
    (hQ : ∀ h', Fly h₀ (frs outer) e v .none h' → Q () { s with heap := h' }) : wpAny M A (leaving env (.ref e)) Q E s := by
  unfold leaving
  obtain ⟨q1, od, q2, q3⟩ := hx
  refine wpAny_bind (fly_first hfr ((Up.of_stays (fs := []) hk).funFrames hl) hf ⟨dx, sl, od, q1, q2, q3⟩ rfl (Up.of_stays hk) hen fun h' x => ?_)
  exact fly_lands x fun h'' x' _ => hQ _ (x'.out F hf)
/-- a frame further out is left -/
theorem leave_fly {base h₀ : Heap} {env : Env} {outer : List Env} {L e : Addr} {v : Value} {m : Str → Option Value} {Q : Unit → Shared → Prop} {h : Heap}
    (hfr : A.frames = some (env :: outer)) (hl : h.FunFrames base (env :: outer)) (hf : env.frame = some L) (F : Fr h₀ L h m) (hx : Fly h (frs (env :: outer)) e v .none s.heap)
    (hQ : ∀ h', Fly h₀ (frs outer) e v .none h' → Q () { s with heap := h' }) : wpAny M A (leaving env (.ref e)) Q E s := by
  unfold leaving
  refine wpAny_bind (fly_look hfr (hx.up.funFrames hl) hf hx fun h' x => ?_)
  exact fly_lands x fun h'' x' _ => hQ _ (x'.out F hf)
/-- a frame is left that has looked at it in a loop -/
theorem leave_held {h₀ : Heap} {env : Env} {outer : List Env} {L e : Addr} {v : Value} {m : Str → Option Value} {Q : Unit → Shared → Prop} {h : Heap}
    (hf : env.frame = some L) (F : Fr h₀ L h m) (hx : Fly h (frs (env :: outer)) e v (rawInt L) s.heap)
    (hQ : ∀ h', Fly h₀ (frs outer) e v .none h' → Q () { s with heap := h' }) : wpAny M A (leaving env (.ref e)) Q E s := by
  unfold leaving
  exact wpAny_bind (fly_again hf hx (fly_lands hx fun h'' x' _ => hQ _ (x'.out F hf)))
end
section
variable {w : World} {A : Around} {E : Value → Shared → Prop} {s : Shared} {env : Env}
theorem raise_obj {x : Expr} {pos : Pos} {Q : Flow → Shared → Prop} (hh : A.handled = none)
    (h : wpAny (model PySem.Challenge.rw_xw0007_01.prog w) A (eval x env) (fun v s₁ => ∃ e v0 t1 dx sl, v = .ref e ∧ (hd.heap_39 w.params).In s₁.heap ∧ Made s₁.heap e v0 t1 dx sl ∧ E (.ref e) s₁) E s) :
    wpAny (model PySem.Challenge.rw_xw0007_01.prog w) A (exec (.Raise (some x) none pos) env) Q E s := by
  have key : wpAny (model PySem.Challenge.rw_xw0007_01.prog w) A (raiseStmt env (some (do let v ← eval x env; standAt pos; pure v)) none) Q E s := by
    unfold raiseStmt
    refine wpAny_bind (wpAny_bind (wpAny_mono h (fun v s₁ h₁ => wpAny_bind (wpAny_standAt (wpAny_pure ?_))) fun _ _ x => x))
    obtain ⟨e, v0, t1, dx, sl, rfl, X, ⟨he, _⟩, hE⟩ := h₁
    obtain ⟨nm, q, N, bs, bm, hdct, sn, sub, ab, col, dd, k0, k1, k2, k3, k5, hK, _, _, _, hbm⟩ := cls70 (w := w)
    have hC := X _ _ hK
    have hcB : (Value.ref 70 :: bm).contains (.type "BaseException") = true := by rw [List.contains_cons, hbm, Bool.or_true]
    obtain ⟨hp, g, d, tk, os⟩ := s₁
    repeat (first | with_reducible refine wpAny_loadPart_at he ?_ | with_reducible refine wpAny_loadPart_at hC ?_ | (with_reducible refine wpAny_isSubtype_exc hC ?_; rw [hcB]) | wp_step)
    exact wpAny_raiseNew_none hh hE
  rw [arm_exec_Raise]
  first
    | exact wpAny_bind (wpAny_standAt key)
    | (simp only [evalOpt, Option.map]; exact wpAny_bind (wpAny_standAt key))
    | (show wpAny (model PySem.Challenge.rw_xw0007_01.prog w) A (do standAt pos; raiseStmt env (some (do let v ← eval x env; standAt pos; pure v)) none) Q E s; exact wpAny_bind (wpAny_standAt key))
end
section
variable {base : Heap} {outer : List Env}
theorem push_below {A : Around} {h₀ h : Heap} {env : Env} {L : Addr} {m : Str → Option Value} (B : Below A base outer h₀) (F : Fr h₀ L h m) (hf : env.frame = some L) (hk : env.scope.kind ≠ .module) : Below (A.deeper env) base (env :: outer) h := by
  have hnew : base.get? L = none := by
    cases hq : base.get? L with
    | none => rfl
    | some o => exact absurd (Nat.lt_of_lt_of_le (Heap.lt_size (B.stays L o hq)) F.above) (Nat.lt_irrefl _)
  exact ⟨Around.frames_deeper B.stack, fun b o e => F.keep b o (B.stays b o e), .cons hk hf F.ns hnew (B.frames.of_keeps fun b o e _ => ⟨o, F.keep b o e, rfl⟩)⟩

def RaiseE (h₀ : Heap) (outer : List Env) (s : Shared) (E : Value → Shared → Prop) : Prop := ∀ h' tk e t, Fly h₀ (frs outer) e (.str (Str.ofString "constraint_error") t) .none h' → E (.ref e) { s with heap := h', toks := tk }

end
section
variable {M : Model} {A : Around} {E : Value → Shared → Prop} {s s₀ : Shared} {base h₀ h : Heap} {env : Env} {outer : List Env} {L e : Addr} {m : Str → Option Value}
theorem leave_raise {t1 dx : Addr} {sl : Array (Option Value)} {t : Tok} (B : Below A base outer h₀) (F : Fr h₀ L h m) (hk : h.StaysIn s.heap) (hx : Made s.heap e (.str (Str.ofString "constraint_error") t) t1 dx sl) (hen : h.get? e = none)
    (hE : RaiseE h₀ outer s₀ E) (hs : ∀ h', ∃ tk, { s with heap := h' } = { s₀ with heap := h', toks := tk }) (hf : env.frame = some L := by rfl) (hm : env.scope.kind = .function := by rfl) :
    wpAny M (A.deeper env) (leaving env (.ref e)) (fun _ s'' => E (.ref e) s'') (fun e' s'' => E e' s'') s := by
  have B' := push_below B F hf (by rw [hm]; decide)
  exact leave_made B'.stack B'.frames hf F hk hx hen fun h' x => by obtain ⟨tk, q⟩ := hs h'; rw [q]; exact hE _ _ _ _ x
theorem leave_passed {t : Tok} (B : Below A base outer h₀) (F : Fr h₀ L h m) (hx : Fly h (frs (env :: outer)) e (.str (Str.ofString "constraint_error") t) .none s.heap)
    (hE : RaiseE h₀ outer s₀ E) (hs : ∀ h', ∃ tk, { s with heap := h' } = { s₀ with heap := h', toks := tk }) (hf : env.frame = some L := by rfl) (hm : env.scope.kind = .function := by rfl) :
    wpAny M (A.deeper env) (leaving env (.ref e)) (fun _ s'' => E (.ref e) s'') (fun e' s'' => E e' s'') s := by
  have B' := push_below B F hf (by rw [hm]; decide)
  exact leave_fly B'.stack B'.frames hf F hx fun h' x => by obtain ⟨tk, q⟩ := hs h'; rw [q]; exact hE _ _ _ _ x
theorem leave_looked {t : Tok} (B : Below A base outer h₀) (F : Fr h₀ L h m) (hx : Fly h (frs (env :: outer)) e (.str (Str.ofString "constraint_error") t) (rawInt L) s.heap)
    (hE : RaiseE h₀ outer s₀ E) (hs : ∀ h', ∃ tk, { s with heap := h' } = { s₀ with heap := h', toks := tk }) (hf : env.frame = some L := by rfl) :
    wpAny M (A.deeper env) (leaving env (.ref e)) (fun _ s'' => E (.ref e) s'') (fun e' s'' => E e' s'') s :=
  leave_held hf F hx fun h' x => by obtain ⟨tk, q⟩ := hs h'; rw [q]; exact hE _ _ _ _ x
end
theorem lines_Raise0 : True := by
  k_with "exec Raise some none" => (k_here; (with_reducible show wpAny _ _ (exec (Stmt.Raise (some _) none _) _) _ _ _); refine raise_obj rfl ?_)
  trivial
/-- a def entered that may raise -/
theorem enterE {w : World} {dp un : Nat} {fr : Option (List Env)} {gd : Option (List Code)} {E : Value → Shared → Prop} {s : Shared} {Q : Value → Shared → Prop} {f : Addr} {args : List Value}
    {name qual : Str} {params : Arguments} {body : List Stmt} {scope : Scope} {dV kV doc pm cdv ct oc : Value} {an od : Option Addr} {osl : Array (Option Value)}
    (binds : List (Str × Value)) (X : (hd.heap_39 w.params).In s.heap) (hlim : s.heap.NoLimit) (hroom : dp < recursionLimit)
    (ho : (hd.heap_39 w.params).lookup f = some ⟨oc, od, .func (fnX name qual params body scope [] dV kV doc pm an cdv ct), osl⟩) (hcd : codeIn (hd.heap_39 w.params) cdv qual = true)
    (hbind : BindsTo s (fnX name qual params body scope [] dV kV doc pm an cdv ct) ⟨args, []⟩ binds) (hloc : ∀ y ∈ binds, scope.names.lookup y.1 = some .local)
    (hcell : ∀ x ∈ scope.names, x.2 ≠ .cell) (hco : scope.isCoroutine = false) (hgen : scope.isGenerator = false) (hk : scope.kind = .function)
    (h : ∀ L h₁, L = s.heap.objs.size → Fr s.heap L h₁ (fun y => binds.reverse.lookup y) → News s.heap L h₁ [] →
      wpAny (model PySem.Challenge.rw_xw0007_01.prog w) ((Ar dp un fr gd).deeper (envX qual scope L f cdv [])) (execs body (envX qual scope L f cdv []))
        (fun fl s' => Q (match fl with | .ret v => v | _ => .none) s')
        (fun e s' => wpAny (model PySem.Challenge.rw_xw0007_01.prog w) ((Ar dp un fr gd).deeper (envX qual scope L f cdv [])) (leaving (envX qual scope L f cdv []) e) (fun _ s'' => E e s'') (fun e' s'' => E e' s'') s')
        { s with heap := h₁, toks := s.toks + binds.length }) :
    wpAny (model PySem.Challenge.rw_xw0007_01.prog w) (Ar dp un fr gd) (call (.ref f) args) Q E s :=
  wpAny_call (enterGR binds (stays_refl _) (Nat.le_refl _) (fun _ hp => absurd hp (List.not_mem_nil)) X hlim hroom ho hcd hbind hloc hcell hco hgen hk fun L h₁ e _ F N => h L h₁ e F N)
section
variable {w : World} {dp un : Nat} {fr : Option (List Env)} {gd : Option (List Code)} {E : Value → Shared → Prop} {s : Shared} {Q : Value → Shared → Prop} {mean : ExcName → Option Value} {mg mb : Str → Option Value} {base : Heap} {outer : List Env}

theorem raise_ok (X : (hd.heap_39 w.params).In s.heap) (T : Top hd.view_39 (looseW hd.view_39 []) mean mg mb s.heap) (B : Below (Ar dp un fr gd) base outer s.heap) (hdep : dp + 9 < recursionLimit) {v : Value}
    (hE : RaiseE s.heap outer s E) :
    wpAny (model PySem.Challenge.rw_xw0007_01.prog w) (Ar dp un fr gd) (call (.ref 180) [v]) Q E s := by
  refine' enterE [(Str.ofString "text", v)] X T.nolimit (by omega) ?ho ?hcd ?hb ?hl ?hc ?h1 ?h2 ?h3 ?_
  case ho => k_is
  case hcd => k_is
  case hb => exact BindsTo.of_eq rfl
  case hl => exact locs rfl
  case hc => decide
  case h1 => rfl
  case h2 => rfl
  case h3 => rfl
  intro L h₁ hL F N
  k_fold
  k_steps
  apply unhold
  refine new_ada (X.keeps F.keep) (T.keeps F.keep) (by walk_at "my room") fun h' tk e t1 dx sl k hn hM => ?_
  refine ⟨e, _, t1, dx, sl, rfl, X.keeps (stays_trans F.keep k), hM, ?_⟩
  exact leave_raise B F k hM hn hE fun h' => ⟨_, rfl⟩
end
section
variable {prog : Program} {w : World} {A : Around} {E : Value → Shared → Prop} {s : Shared} {env : Env}
/-- over a list of pairs, two names as the target; Fin: what follows; K: the heap's size when the list is known; K: the iterator, K + 1: the list that is made, K + 2: the block's names -/
inductive CPInv (prog : Program) (w : World) (A : Around) (elt : Expr) (scope : Scope) (cl : List (Str × Addr)) (env : Env) (x x2 : Str) (vs : Array Value) (hh : Heap) (K : Addr) (Fin : (Nat → List Value → Heap → Prop) → Prop) : Prop
  | mk (Inv : Nat → List Value → Heap → Prop) (h1 : Inv 0 [] hh)
    (h2 : ∀ i ys h h', Inv i ys h → (∀ b o, h.get? b = some o → (Soft o ∨ (b ≠ K ∧ b ≠ K + 1 ∧ b ≠ K + 2)) → h'.get? b = some o) → Inv i ys h')
    (h3 : ∀ i p a b ys h₃ g₃ d₃ t₃ os₃ m₃, vs[i]? = some (.ref p) → hh.IsTuple p #[a, b] → Inv i ys h₃ → h₃.Ns (K + 2) m₃ → m₃ x = some a → m₃ x2 = some b → K + 3 ≤ h₃.objs.size → (∀ b, b = K ∨ b = K + 1 ∨ b = K + 2 → ∃ o, h₃.get? b = some o) → (∀ b o, hh.get? b = some o → h₃.get? b = some o) →
      wpAny (model prog w) A (eval elt (compEnvC scope cl (K + 2) env)) (fun y s₄ => Hold (CTurn [] (K + 2) h₃ g₃ d₃ os₃ (Inv (i + 1) (ys ++ [y])) s₄)) (fun _ _ => False) ⟨h₃, g₃, d₃, t₃, os₃⟩)
    (h4 : Fin Inv) : CPInv prog w A elt scope cl env x x2 vs hh K Fin
inductive CPArg (prog : Program) (w : World) (A : Around) (elt : Expr) (scope : Scope) (cl : List (Str × Addr)) (env : Env) (x x2 : Str) (Fin : Shared → Array Value → Heap → Addr → (Nat → List Value → Heap → Prop) → Prop) (xv : Value) (s₁ : Shared) : Prop
  | mk (l : Addr) (vs : Array Value) (e : xv = .ref l) (hl : s₁.heap.IsList l vs) (hsz : vs.size ≤ sizeLine) (ht : ∀ v ∈ vs.toList, ∃ p a b, v = .ref p ∧ s₁.heap.IsTuple p #[a, b]) (k : ∀ hh K, s₁.heap = hh → K = hh.objs.size → CPInv prog w A elt scope cl env x x2 vs hh K (Fin s₁ vs hh K)) : CPArg prog w A elt scope cl env x x2 Fin xv s₁
theorem pairs_compI {elt : Expr} {x x2 : Str} {px px2 pt : Pos} {kk : Nat} {scope : Scope} {cl : List (Str × Addr)} {hh : Heap} {l : Addr} {vs : Array Value} {Inv : Nat → List Value → Heap → Prop} {Fin : (Nat → List Value → Heap → Prop) → Prop}
    (hn : A.handled = none) (hkind : scope.kind = .function) (hx : scope.names.lookup x = some .local) (hx2 : scope.names.lookup x2 = some .local) (hxx : (x == x2) = false)
    (hl : hh.IsList l vs) (hsz : vs.size ≤ sizeLine) (htup : ∀ v ∈ vs.toList, ∃ p a b, v = .ref p ∧ hh.IsTuple p #[a, b]) (hinv : Inv 0 [] hh)
    (hframe : ∀ i ys h h', Inv i ys h → (∀ b o, h.get? b = some o → (Soft o ∨ (b ≠ hh.objs.size ∧ b ≠ hh.objs.size + 1 ∧ b ≠ hh.objs.size + 2)) → h'.get? b = some o) → Inv i ys h')
    (helt : ∀ i p a b ys h₃ g₃ d₃ t₃ os₃ m₃, vs[i]? = some (.ref p) → hh.IsTuple p #[a, b] → Inv i ys h₃ → h₃.Ns (hh.objs.size + 2) m₃ → m₃ x = some a → m₃ x2 = some b → hh.objs.size + 3 ≤ h₃.objs.size → (∀ b, b = hh.objs.size ∨ b = hh.objs.size + 1 ∨ b = hh.objs.size + 2 → ∃ o, h₃.get? b = some o) → (∀ b o, hh.get? b = some o → h₃.get? b = some o) →
      wpAny (model prog w) A (eval elt (compEnvC scope cl (hh.objs.size + 2) env)) (fun y s₄ => Hold (CTurn [] (hh.objs.size + 2) h₃ g₃ d₃ os₃ (Inv (i + 1) (ys ++ [y])) s₄)) (fun _ _ => False) ⟨h₃, g₃, d₃, t₃, os₃⟩) :
    CompI prog w A (.Tuple [.Name x px, .Name x2 px2] kk pt) elt scope cl env (hh.push { cls := .type "list_iterator", data := .fields #[.ref l, .int 0 0] }) hh.objs.size (hh.objs.size + 1) [hh.objs.size, l] [hh.objs.size] vs.size (fun i v => vs[i]? = some v) (fun i h => h.IsListIter hh.objs.size l i ∧ h.IsList l vs) [] Inv (fun _ v m => ∃ p a b, v = .ref p ∧ hh.IsTuple p #[a, b] ∧ m x = some a ∧ m x2 = some b) := by
  have hllt : l < hh.objs.size := let ⟨_, ho, _⟩ := hl; Heap.lt_size ho
  refine CompI.ofK rfl (Walks.list hn _ l (Nat.ne_of_lt hllt) vs) hsz ⟨⟨_, Heap.get?_push_size _ rfl, rfl, rfl⟩, hl.at fun o e => Heap.get?_push_of_some _ e⟩ (fun b hb => ?_) (fun _ hb => absurd hb List.not_mem_nil) hinv ?_ hframe ?_ ?_
  · rcases List.mem_cons.mp hb with rfl | hb
    · exact Nat.le_refl _
    · rw [List.mem_singleton.mp hb]; exact Nat.le_of_lt hllt
  · rintro i h ⟨⟨oi, hoi, _, hdi⟩, _⟩
    exact ⟨oi, hoi, not_soft_fields hdi⟩
  · intro i v s₃ m₃ Q' hP hns hst hk hq
    obtain ⟨p, a, b, rfl, ht⟩ := htup v (Array.mem_toList_iff.mpr (Array.mem_of_getElem? hP))
    refine wpAny_letOwnedTupleGo_listiter hst.1 ?_
    have ht3 : s₃.heap.IsTuple p #[a, b] := ht.at fun o e => hk _ o List.not_mem_nil e
    exact kcp_assign hn ht3 (lookup_relabel_local hx) (lookup_relabel_local hx2) (by simp [compEnvC, relabel, hkind]) hns fun h' tk hn' hk' => hq h' _ tk hn' ⟨p, a, b, rfl, ht, by simp [show ¬ x = x2 from fun q => by rw [q] at hxx; simp at hxx], by simp⟩ fun b o hb e => hk' b o hb e
  · intro i v ys s₃ m₃ _ hP hinv' hns ht hsz' hlv hk
    obtain ⟨p, a, b, rfl, ht, hm1, hm2⟩ := ht
    exact helt i p a b ys s₃.heap s₃.gens s₃.drawn s₃.toks s₃.os m₃ hP ht hinv' hns hm1 hm2 hsz' hlv fun b o e => hk b o List.not_mem_nil e
def FinP (Q : Value → Shared → Prop) (s₁ : Shared) (vs : Array Value) (hh : Heap) (K : Addr) (Inv : Nat → List Value → Heap → Prop) : Prop :=
  ∀ h' tk ys, h'.PlainList (K + 1) ys → ys.size = vs.size → Inv vs.size ys.toList h' → (∀ b o, hh.get? b = some o → h'.get? b = some o) → Q (.ref (K + 1)) { s₁ with heap := h', toks := tk }
theorem comp_pairs {elt iter : Expr} {x x2 : Str} {px px2 pt : Pos} {kk : Nat} {scope : Scope} {cl : List (Str × Addr)} {pos : Pos} {Q : Value → Shared → Prop}
    (hh : A.handled = none) (hclos : closureFor scope env = pure cl) (hcell : ∀ y ∈ scope.names, y.2 ≠ .cell) (hkind : scope.kind = .function)
    (hnames : ∀ y ∈ scope.names, y.2 = .local → scope.names.lookup y.1 = some .local) (hx : scope.names.lookup x = some .local) (hx2 : scope.names.lookup x2 = some .local) (hxx : (x == x2) = false)
    (h : wpAny (model prog w) A (eval iter env) (fun xv s₁ => Hold (CPArg prog w A elt scope cl env x x2 (FinP Q) xv s₁)) E s)
    (hs : ∀ x, foldedSetIterable iter env x = pure x := by intro _; rfl) :
    wpAny (model prog w) A (eval (.ListComp elt [⟨.Tuple [.Name x px, .Name x2 px2] kk pt, iter, [], 0⟩] scope pos) env) Q E s := by
  refine comp_inv hclos hcell hkind hnames (wpAny_mono h (fun xv s₁ h₁ => ?_) fun _ _ e => e) hs
  obtain ⟨l, vs, rfl, hl, hsz, htup, h₁⟩ := h₁
  obtain ⟨Inv, hinv, hframe, helt, hQ⟩ := h₁ _ _ rfl rfl
  exact wpAny_pyIter_list hl ⟨rfl, pairs_compI (Fin := FinP Q s₁ vs s₁.heap s₁.heap.objs.size) hh hkind hx hx2 hxx hl hsz htup hinv hframe helt, FinV.ofK rfl fun h' tk ys a b c d => hQ h' tk ys a b c fun b o e => d b o List.not_mem_nil e⟩
end
theorem lines_Pairs : True := by
  k_with "my pairs" => (
  (case hh => rfl); (case hclos => exact closureFor_none (by decide)); (case hcell => decide); (case hkind => rfl); (case hnames => decide); (case hx => rfl); (case hx2 => rfl); (case hxx => decide); (case hs => intro x; rfl))
  trivial
def lenOf (b : Int × Int) : Int := if 0 > b.2 - b.1 + 1 then 0 else b.2 - b.1 + 1
def IntL : List Value → List Int → Prop
  | [], [] => True
  | v :: vs, i :: is => (∃ t, v = .int i t) ∧ IntL vs is
  | _, _ => False
theorem IntL.snoc : ∀ {vs : List Value} {is : List Int} {i : Int} {t : Tok}, IntL vs is → IntL (vs ++ [.int i t]) (is ++ [i])
  | [], [], _, _, _ => ⟨⟨_, rfl⟩, trivial⟩
  | _ :: _, _ :: _, _, _, ⟨a, r⟩ => ⟨a, r.snoc⟩
theorem IntL.length : ∀ {vs : List Value} {is : List Int}, IntL vs is → vs.length = is.length
  | [], [], _ => rfl
  | _ :: _, _ :: _, ⟨_, r⟩ => by rw [List.length_cons, List.length_cons, r.length]
def IntsAt (h : Heap) (l : Addr) (is : List Int) : Prop := ∃ vs, h.PlainList l vs ∧ IntL vs.toList is
theorem PairL.tups {h : Heap} {vs : List Value} {bs : List (Int × Int)} (x : PairL h vs bs) : ∀ v ∈ vs, ∃ p a b, v = .ref p ∧ h.IsTuple p #[a, b] := by
  intro v hv
  obtain ⟨i, hi, rfl⟩ := List.mem_iff_getElem.mp hv
  obtain ⟨b, p, t1, t2, n, _, e, o⟩ := x.get (List.getElem?_eq_getElem hi)
  exact ⟨p, _, _, e, _, o, rfl, n, rfl⟩
theorem PairL.at {h : Heap} {vs : List Value} {bs : List (Int × Int)} (x : PairL h vs bs) {i : Nat} {p : Addr} {a b : Value} (e : vs[i]? = some (.ref p)) (ht : h.IsTuple p #[a, b]) : ∃ c t1 t2, bs[i]? = some c ∧ a = .int c.1 t1 ∧ b = .int c.2 t2 := by
  obtain ⟨c, p', t1, t2, n, hc, e', o⟩ := x.get e
  cases e'
  obtain ⟨o', ho', _, n', hd⟩ := ht
  rw [o] at ho'; cases ho'
  cases hd
  exact ⟨c, t1, t2, hc, rfl, rfl⟩
section
variable {w : World} {dp un : Nat} {fr : Option (List Env)} {gd : Option (List Code)} {E : Value → Shared → Prop} {s : Shared} {Q : Value → Shared → Prop} {mean : ExcName → Option Value} {mg mb : Str → Option Value}
theorem dim_ok (X : (hd.heap_39 w.params).In s.heap) (T : Top hd.view_39 (looseW hd.view_39 []) mean mg mb s.heap) (hdep : dp + 2 < recursionLimit) {i j : Int} {t t2 : Tok}
    (hQ : ∀ h' tk t', s.heap.StaysIn h' → Q (.int (lenOf (i, j)) t') { s with heap := h', toks := tk }) :
    wpAny (model PySem.Challenge.rw_xw0007_01.prog w) (Ar dp un fr gd) (call (.ref 187) [.int i t, .int j t2]) Q E s := by
  refine' enter [(Str.ofString "low", .int i t), (Str.ofString "high", .int j t2)] X T.nolimit (by omega) ?ho ?hcd ?hb ?hl ?hc ?h1 ?h2 ?h3 ?_
  case ho => k_is
  case hcd => k_is
  case hb => exact BindsTo.of_eq rfl
  case hl => exact locs rfl
  case hc => decide
  case h1 => rfl
  case h2 => rfl
  case h3 => rfl
  intro L h₁ hL F N
  k_fold
  k_steps
  with_reducible rename Fr _ _ _ _ => F2
  exact hQ _ _ _ F2.keep

theorem lengths_ok (X : (hd.heap_39 w.params).In s.heap) (T : Top hd.view_39 (looseW hd.view_39 []) mean mg mb s.heap) (hdep : dp + 3 < recursionLimit) {a dx b : Addr} {bs : List (Int × Int)}
    (H : Has s.heap a dx 131 (Str.ofString "bounds") (.ref b)) (H3 : PairsAt s.heap b bs) (hb : bs.length ≤ 100)
    (hQ : ∀ h' tk l, s.heap.StaysIn h' → IntsAt h' l (bs.map lenOf) → Q (.ref l) { s with heap := h', toks := tk }) :
    wpAny (model PySem.Challenge.rw_xw0007_01.prog w) (Ar dp un fr gd) (call (.ref 173) [.ref a]) Q E s := by
  obtain ⟨bv, B1, B2⟩ := H3
  have bsz : bv.size ≤ sizeLine := by
    have := B2.length
    rw [Array.length_toList] at this
    rw [this, sizeLine]; omega
  refine' enter [(Str.ofString "value", .ref a)] X T.nolimit (by omega) ?ho ?hcd ?hb ?hl ?hc ?h1 ?h2 ?h3 ?_
  case ho => k_is
  case hcd => k_is
  case hb => exact BindsTo.of_eq rfl
  case hl => exact locs rfl
  case hc => decide
  case h1 => rfl
  case h2 => rfl
  case h3 => rfl
  intro L h₁ hL F N
  k_fold
  k_steps
  apply unhold
  refine' comp_pairs (cl := []) ?hh ?hclos ?hcell ?hkind ?hnames ?hx ?hx2 ?hxx ?h ?hs
  walk_at "my pairs"
  k_steps
  refine ⟨b, bv, rfl, B1.isList.at fun o e => F.keep _ _ e, bsz, fun v hv => ?_, fun hh K e hK => ?_⟩
  · obtain ⟨p, a, b, e, ht⟩ := B2.tups v hv
    exact ⟨p, a, b, e, ht.at fun o e => F.keep _ _ e⟩
  obtain rfl : h₁ = hh := e
  refine ⟨fun i ys h => IntL ys ((bs.take i).map lenOf), trivial, fun i ys h h' x _ => x, ?_, ?_⟩
  · intro i p a' b' ys h3 g3 d3 t3 os3 m₃ hv ht hI hns hm1 hm2 hsz hlv hk
    obtain ⟨c, t1, t2, hc, rfl, rfl⟩ := (B2.keep fun b o e _ => F.keep b o e).at (by simpa using hv) ht
    have FC : Fr h₁ (K + 2) h3 m₃ := ⟨hns, hk, by rw [hK]; exact Nat.le_add_right _ _⟩
    obtain ⟨gl, NG, back⟩ := snapAll FC
    have X3 := X.keeps F.keep
    have T3 := T.keeps F.keep
    clear F N
    k_steps
    with_reducible rename Fr _ _ _ _ => F2
    with_reducible rename News _ _ _ _ => N2
    apply unhold
    refine ⟨_, _, rfl, fun b o _ hb e => back _ _ F2 N2 b o e hb, ⟨_, F2.ns⟩, ?_⟩
    show IntL _ _
    rw [take_snoc hc, List.map_append]
    exact IntL.snoc hI
  · intro h' tk ys hpl hsz hI hk
    have hk2 : h₁.StaysIn h' := hk
    have F2 := Fr.keeps F hk2
    have hlen : bv.size = bs.length := by
      have := B2.length
      rwa [Array.length_toList] at this
    clear F N
    k_steps
    refine hQ _ _ (K + 1) F2.keep ⟨ys, hpl, ?_⟩
    rw [hlen, List.take_length] at hI; exact hI
end
theorem IntL.reads {h : Heap} : ∀ {vs : List Value} {is : List Int}, IntL vs is → ReadsAll h vs (is.map PyData.int) []
  | [], [], _ => .nil
  | _ :: _, _ :: _, ⟨⟨t, e⟩, r⟩ => by subst e; exact .cons (as := []) (.int _ t) r.reads
theorem IntsAt.reads {h : Heap} {l : Addr} {is : List Int} (x : IntsAt h l is) : Reads h (.ref l) (.list (is.map PyData.int)) [l] := by
  obtain ⟨vs, ⟨n, o⟩, r⟩ := x
  exact .list o rfl rfl r.reads
theorem IntsAt.stays {h h' : Heap} {l : Addr} {is : List Int} (x : IntsAt h l is) (k : h.StaysIn h') : IntsAt h' l is := let ⟨vs, p, r⟩ := x; ⟨vs, p.at fun o e => k _ _ e, r⟩
theorem ints_shaped (is : List Int) : PySem.SeqAt.shaped (.list (is.map PyData.int)) = true := by
  have h1 : PyData.canLay0 (.list (is.map PyData.int)) = true := by
    show PyData.canLayAll0 _ = true
    exact canLayAll_of fun p hp => by obtain ⟨i, _, rfl⟩ := List.mem_map.mp hp; rfl
  have h2 : PyData.depthAll (is.map PyData.int) ≤ 1 := depthAll_of fun p hp => by obtain ⟨i, _, rfl⟩ := List.mem_map.mp hp; simp [PyData.depth]
  unfold PySem.SeqAt.shaped
  rw [h1, Bool.true_and, decide_eq_true_eq]
  simp only [PyData.depth]
  omega
theorem ints_eqv : ∀ (is js : List Int), PyData.eqvAll (is.map PyData.int) (js.map PyData.int) = decide (is = js)
  | [], [] => by simp [PyData.eqvAll]
  | [], _ :: _ => by simp [PyData.eqvAll]
  | _ :: _, [] => by simp [PyData.eqvAll]
  | i :: is, j :: js => by
    rw [List.map_cons, List.map_cons, PyData.eqvAll, ints_eqv is js, PyData.eqv]
    by_cases h : i = j <;> by_cases h2 : is = js <;> simp [h, h2]
section
variable {w : World} {dp un : Nat} {fr : Option (List Env)} {gd : Option (List Code)} {E : Value → Shared → Prop} {s : Shared} {Q : Value → Shared → Prop} {mean : ExcName → Option Value} {mg mb : Str → Option Value} {base : Heap} {outer : List Env}
theorem check_lengths_ok (X : (hd.heap_39 w.params).In s.heap) (T : Top hd.view_39 (looseW hd.view_39 []) mean mg mb s.heap) (B : Below (Ar dp un fr gd) base outer s.heap) (hdep : dp + 11 < recursionLimit) (hu : un + 80 < cLine) {a dx b l : Addr} {bs as : List (Int × Int)}
    (H : Has s.heap a dx 131 (Str.ofString "bounds") (.ref b)) (H3 : PairsAt s.heap b bs) (hb : bs.length ≤ 100) (H4 : PairsAt s.heap l as) (ha : as.length ≤ 100)
    (hQ : bs.map lenOf = as.map lenOf → ∀ h' tk, s.heap.StaysIn h' → Q .none { s with heap := h', toks := tk })
    (hE : bs.map lenOf ≠ as.map lenOf → RaiseE s.heap outer s E) :
    wpAny (model PySem.Challenge.rw_xw0007_01.prog w) (Ar dp un fr gd) (call (.ref 192) [.ref a, .ref l]) Q E s := by
  obtain ⟨av, A1, A2⟩ := H4
  have asz : av.size ≤ sizeLine := by
    have := A2.length
    rw [Array.length_toList] at this
    rw [this, sizeLine]; omega
  refine' enterE [(Str.ofString "value", .ref a), (Str.ofString "bounds", .ref l)] X T.nolimit (by omega) ?ho ?hcd ?hb ?hl ?hc ?h1 ?h2 ?h3 ?_
  case ho => k_is
  case hcd => k_is
  case hb => exact BindsTo.of_eq rfl
  case hl => exact locs rfl
  case hc => decide
  case h1 => rfl
  case h2 => rfl
  case h3 => rfl
  intro L h₁ hL F N
  k_fold
  k_steps
  apply unhold
  refine lengths_ok (X.keeps F.keep) (T.keeps F.keep) (by walk_at "my room") (H.stays F.keep) (let ⟨bv, B1, B2⟩ := H3; ⟨bv, B1.at fun o e => F.keep _ _ e, B2.keep fun b o e _ => F.keep _ _ e⟩) hb fun h2 tk2 l1 hk2 hI1 => ?_
  have F2 := Fr.keeps F hk2
  have N2 := News.grown N hk2
  clear F N
  k_steps
  apply unhold
  refine' comp_pairs (cl := []) ?hh ?hclos ?hcell ?hkind ?hnames ?hx ?hx2 ?hxx ?h ?hs
  walk_at "my pairs"
  k_steps
  refine ⟨l, av, rfl, A1.isList.at fun o e => F2.keep _ _ e, asz, fun v hv => ?_, fun hh K e hK => ?_⟩
  · obtain ⟨p, a, b, e, ht⟩ := A2.tups v hv
    exact ⟨p, a, b, e, ht.at fun o e => F2.keep _ _ e⟩
  obtain rfl : h2 = hh := e
  refine ⟨fun i ys h => IntL ys ((as.take i).map lenOf), trivial, fun i ys h h' x _ => x, ?_, ?_⟩
  · intro i p a' b' ys h3 g3 d3 t3 os3 m₃ hv ht hI hns hm1 hm2 hsz hlv hk
    obtain ⟨c, t1, t2, hc, rfl, rfl⟩ := (A2.keep fun b o e _ => F2.keep b o e).at (by simpa using hv) ht
    have FC : Fr h2 (K + 2) h3 m₃ := ⟨hns, hk, by rw [hK]; exact Nat.le_add_right _ _⟩
    have NC : News h2 (K + 2) h3 [] := News.nil
    have X3 := X.keeps F2.keep
    have T3 := T.keeps F2.keep
    clear F2 N2
    k_steps
    apply unhold
    refine dim_ok (X3.keeps FC.keep) (T3.keeps FC.keep) (by walk_at "my room") fun h4 tk4 t4 hk4 => ?_
    k_unfold
    refine ⟨_, _, rfl, fun b o _ hb e => hk4 b o e, ⟨_, FC.ns.keeps hk4⟩, ?_⟩
    show IntL _ _
    rw [take_snoc hc, List.map_append]
    exact IntL.snoc hI
  · intro h' tk ys hpl hsz hI hk
    have F3 := Fr.keeps F2 hk
    have N3 := News.grown N2 hk
    have hlen : av.size = as.length := by
      have := A2.length
      rwa [Array.length_toList] at this
    rw [hlen, List.take_length] at hI
    have hI2 : IntsAt h' (K + 1) (as.map lenOf) := ⟨ys, hpl, hI⟩
    have hI1' := hI1.stays hk
    clear F2 N2
    k_steps
    refine ne_dataH hI1'.reads hI2.reads (ints_shaped _) (ints_shaped _) (by walk_at "my room") ?_
    rw [show PyData.eqv (.list ((bs.map lenOf).map PyData.int)) (.list ((as.map lenOf).map PyData.int)) = decide (bs.map lenOf = as.map lenOf) from ints_eqv _ _]
    by_cases hd : bs.map lenOf = as.map lenOf
    · rw [decide_eq_true hd]
      simp only [Bool.not_true]
      k_steps
      exact hQ hd _ _ F3.keep
    · rw [decide_eq_false hd]
      simp only [Bool.not_false]
      k_steps
      apply unhold
      refine raise_ok (X.keeps F3.keep) (T.keeps F3.keep) (push_below B F3 rfl (by simp)) (by walk_at "my room") fun h4 tk4 e4 t4 x4 => ?_
      exact leave_passed B F3 x4 (hE hd) fun h' => ⟨_, rfl⟩
end
section
variable {w : World} {dp un : Nat} {fr : Option (List Env)} {gd : Option (List Code)} {E : Value → Shared → Prop} {s : Shared} {Q : Value → Shared → Prop} {mean : ExcName → Option Value} {mg mb : Str → Option Value} {base : Heap} {outer : List Env}
theorem slide_ok {n : Nat} {Z : Addr → Prop} {items : List D} {bs as : List (Int × Int)} {S : List Addr} (X : (hd.heap_39 w.params).In s.heap) (T : Top hd.view_39 (looseW hd.view_39 []) mean mg mb s.heap) (B : Below (Ar dp un fr gd) base outer s.heap) (hdep : dp + n + 14 < recursionLimit) (hu : un + 6 * n + 90 < cLine) (hz : (∀ x, Z x → ∃ o, s.heap.get? x = some o))
    {a dx b l bl : Addr} {vs : Array Value} (H : Has s.heap a dx 131 (Str.ofString "bounds") (.ref b)) (H2 : Has s.heap a dx 131 (Str.ofString "items") (.ref l))
    (H3 : PairsAt s.heap b bs) (H4 : s.heap.PlainList l vs) (H5 : LiesL (Lies PySem.Challenge.rw_xw0007_01.prog w s.heap Z n) S vs.toList items) (hb : bs.length ≤ 100) (hsz : items.length ≤ 100) (H6 : PairsAt s.heap bl as) (ha : as.length ≤ 100)
    (hQ : bs.map lenOf = as.map lenOf → ∀ h' tk v' S', s.heap.StaysIn h' → Lies PySem.Challenge.rw_xw0007_01.prog w h' Z (n + 1) S' v' (.arr as items) → (∀ x ∈ S', s.heap.get? x = none) → S'.Nodup → Q v' { s with heap := h', toks := tk })
    (hE : bs.map lenOf ≠ as.map lenOf → RaiseE s.heap outer s E) :
    wpAny (model PySem.Challenge.rw_xw0007_01.prog w) (Ar dp un fr gd) (call (.ref 197) [.ref a, .ref bl]) Q E s := by
  obtain ⟨bv, B1, B2⟩ := H6
  have ih : CopyOk w n := copy_ok n
  have B3 := B1.isList
  have L3 := H4.isList
  have bsz : bv.size ≤ sizeLine := by
    have := B2.length
    rw [Array.length_toList] at this
    rw [this, sizeLine]; omega
  have lsz : vs.size ≤ sizeLine := by
    have := H5.length
    rw [Array.length_toList] at this
    rw [this, sizeLine]; omega
  refine' enterE [(Str.ofString "value", .ref a), (Str.ofString "bounds", .ref bl)] X T.nolimit (by omega) ?ho ?hcd ?hb ?hl ?hc ?h1 ?h2 ?h3 ?_
  case ho => k_is
  case hcd => k_is
  case hb => exact BindsTo.of_eq rfl
  case hl => exact locs rfl
  case hc => decide
  case h1 => rfl
  case h2 => rfl
  case h3 => rfl
  intro L h₁ hL F N
  k_fold
  k_steps
  apply unhold
  refine check_lengths_ok (X.keeps F.keep) (T.keeps F.keep) (push_below B F rfl (by simp)) (by walk_at "my room") (by walk_at "my room") (H.stays F.keep) (let ⟨v, q1, q2⟩ := H3; ⟨v, q1.at fun o e => F.keep _ _ e, q2.keep fun b o e _ => F.keep _ _ e⟩) hb ⟨bv, B1.at fun o e => F.keep _ _ e, B2.keep fun b o e _ => F.keep _ _ e⟩ ha (fun heq h6 tk6 hk6 => ?_) fun hne h' tk' e' t' x' => ?_
  rotate_left
  · exact leave_passed B F x' (hE hne) fun h' => ⟨_, rfl⟩
  have F6 := Fr.keeps F hk6
  have N6 := News.grown N hk6
  have hQ := hQ heq
  clear F N hE
  k_steps
  apply unhold
  refine' comp_list (cl := []) ?hh ?hclos ?hcell ?hkind ?hnames ?hx ?h ?hs
  walk_at "my comp"
  k_steps
  with_reducible rename Fr _ _ _ _ => F2
  with_reducible rename News _ _ _ _ => N2
  rename_i D' c' h2 l1
  have X2 := X.keeps F2.keep
  have T2 := T.keeps F2.keep
  have hk2 := F2.keep
  have hzk : ∀ x, Z x → ∃ o, h2.get? x = some o := fun x q => let ⟨o, e⟩ := hz x q; ⟨o, F2.keep _ _ e⟩
  refine ⟨l, vs, rfl, L3.at fun o e => F2.keep _ _ e, lsz, fun hh K e hK => ?_⟩
  obtain rfl : h2 = hh := e
  refine ⟨[], LiN w Z n items h2 K, (fun _ hb => absurd hb List.not_mem_nil), List.not_mem_nil, ⟨[], rfl, List.nodup_nil, fun _ hb => absurd hb List.not_mem_nil⟩, ?_, ?_, ?_⟩
  · rintro i ys h h' ⟨S', r, nd, hx⟩ hk
    refine ⟨S', r.mono fun S1 v d hS _ y => y.move (fun _ q => q) fun b o e hb => hk b o e ?_, nd, hx⟩
    rcases hb with hb | hb | hb
    · exact .inr (hx b (hS b hb)).2
    · obtain ⟨o', hb⟩ := hzk b hb
      have hb := ltN (Heap.lt_size hb)
      exact .inr ⟨neN (by omega), neN (by omega), neN (by omega)⟩
    · exact .inl hb
  · rintro i v ys h3 g3 d3 t3 os3 m₃ hv ⟨S', r, nd, hx⟩ hns hm hsz hlv hk
    obtain ⟨S1, d, hd, hlie⟩ := H5.at (by simpa using hv)
    have FC : Fr h2 (K + 2) h3 m₃ := ⟨hns, fun b o e => hk b o List.not_mem_nil e, by rw [hK]; exact Nat.le_add_right _ _⟩
    have NC : News h2 (K + 2) h3 [] := News.nil
    have hlie3 : Lies PySem.Challenge.rw_xw0007_01.prog w h3 Z n S1 v d := hlie.stays (stays_trans hk2 FC.keep)
    have r3 := r
    have hx3 : ∀ x ∈ S', ∃ o, h3.get? x = some o := r.liveAll fun _ _ _ q => q.live
    have X3 := X2.keeps FC.keep
    have T3 := T2.keeps FC.keep
    clear F2 N2
    k_steps
    apply unhold
    refine ih X3 T3 (by walk_at "my room") (by walk_at "my room") (fun x q => let ⟨o, e⟩ := hzk x q; ⟨o, FC.keep _ _ e⟩) hlie3 fun h4 tk4 v4 S4 hk4 l4 hx4 nd4 => ?_
    k_unfold
    refine ⟨h4, tk4, rfl, fun b o _ _ e => hk4 b o e, ⟨m₃, hns.keeps hk4⟩, S' ++ S4, ?_, ?_, ?_⟩
    · rw [take_snoc hd]
      exact (r.stays hk4).snoc l4
    · refine List.nodup_append.mpr ⟨nd, nd4, fun x h1 y h2 => ?_⟩
      obtain ⟨o, e⟩ := hx3 x h1
      exact fresh_ne e (hx4 y h2)
    · intro x hx'
      rcases List.mem_append.mp hx' with q | q
      · exact hx x q
      · have q3 := hx4 x q
        refine ⟨stays_none FC.keep q3, ?_, ?_, ?_⟩
        · obtain ⟨o, e⟩ := hlv K (.inl rfl); exact (fresh_ne e q3).symm
        · obtain ⟨o, e⟩ := hlv (K + 1) (.inr (.inl rfl)); exact (fresh_ne e q3).symm
        · obtain ⟨o, e⟩ := hlv (K + 2) (.inr (.inr rfl)); exact (fresh_ne e q3).symm
  · rintro h' tk ys hpl hys ⟨S', r, nd, hx⟩ hk
    have hk3 : h2.StaysIn h' := fun b o e => hk b o List.not_mem_nil e
    have F3 := Fr.keeps F2 hk3
    have N3 := News.grown N2 hk3
    have hD := (N2 _ (.head _)).1
    have hDf := (N2 _ (.head _)).2.2
    have hx3 : ∀ x ∈ S', ∃ o, h'.get? x = some o := r.liveAll fun _ _ _ q => q.live
    have hK0 : s.heap.get? (K + 1) = none := stays_none F2.keep (by rw [hK]; exact Heap.get?_none_of_le (Nat.le_add_right _ _))
    have hDK : D' ≠ K + 1 := neN (by have := ltN (Heap.lt_size hD); omega)
    have hl3 : ∃ o, h'.get? (K + 1) = some o := let ⟨_, e⟩ := hpl; ⟨_, e⟩
    have hlen : items.length = vs.size := by
      have := H5.length
      rw [Array.length_toList] at this
      exact this.symm
    clear F2 N2
    k_steps
    apply unhold
    refine new_array (X.keeps F3.keep) (T.keeps F3.keep) (by walk_at "my room") fun h4 tk4 a4 dx4 ⟨k4, lo4, g1, g2⟩ => ?_
    have k04 : s.heap.StaysIn h4 := stays_trans F3.keep k4
    refine hQ h4 tk4 (.ref a4) (dx4 :: D' :: (K + 1) :: S') k04 ⟨a4, dx4, D', K + 1, ys, S', rfl, rfl, g1, g2, ⟨bv, ⟨c', k4 _ _ (N3 _ (.head _)).1⟩, B2.keep fun b o e _ => k04 b o e⟩, hpl.at fun o e => k4 _ _ e, ?_, ha, hsz⟩ ?_ ?_
    · have q := r.stays k4
      rwa [← hlen, List.take_length] at q
    · intro x hx'
      simp only [List.mem_cons] at hx'
      rcases hx' with rfl | rfl | rfl | hx'
      · exact stays_none F3.keep lo4
      · exact hDf
      · exact hK0
      · exact stays_none hk2 (hx x hx').1
    · refine List.nodup_cons.mpr ⟨fun hm => ?_, List.nodup_cons.mpr ⟨fun hm => ?_, List.nodup_cons.mpr ⟨fun hm => (hx _ hm).2.2.1 rfl, nd⟩⟩⟩
      · simp only [List.mem_cons] at hm
        rcases hm with rfl | rfl | hm
        · exact fresh_ne (N3 _ (.head _)).1 lo4 rfl
        · obtain ⟨o, e⟩ := hl3
          exact fresh_ne e lo4 rfl
        · obtain ⟨o, e⟩ := hx3 _ hm
          exact fresh_ne e lo4 rfl
      · simp only [List.mem_cons] at hm
        rcases hm with e | hm
        · exact hDK e
        · exact fresh_ne hD (hx _ hm).1 rfl
end
section
variable {prog : Program} {w : World} {A : Around} {E : Value → Shared → Prop} {s : Shared} {env : Env}
/-- over a range from 0 by 1; K: the iterator's address -/
inductive FNextR (s₁ : Shared) (K : Addr) (oI : Obj) (J : Heap → Prop) (s₆ : Shared) : Prop
  | mk (h' : Heap) (tk : Nat) (e : s₆ = { s₁ with heap := h', toks := tk }) (a : h'.get? K = some oI) (j : J h') : FNextR s₁ K oI J s₆
inductive FRInv (prog : Program) (w : World) (A : Around) (x : Str) (body : List Stmt) (env : Env) (Q : Flow → Shared → Prop) (E : Value → Shared → Prop) (s₁ : Shared) (n : Nat) (hh : Heap) (K : Addr) : Prop
  | mk (J : Nat → Heap → Prop) (h1 : J 0 hh) (h2 : ∀ i h h', J i h → (∀ b o, h.get? b = some o → (Soft o ∨ b ≠ K) → h'.get? b = some o) → J i h')
    (h3 : ∀ i t h₃ tk₃ oI, i < n → h₃.get? K = some oI → ¬ Soft oI → J i h₃ →
      wpAny (model prog w) A (storeName env x (.int (i : Nat) t)) (fun _ s₅ => wpAny (model prog w) A (execs body env) (fun f s₆ => Hold (match f with
        | .next | .cont => FNextR s₁ K oI (J (i + 1)) s₆
        | .brk => Q .next s₆
        | .ret v => Q (.ret v) s₆)) (notedBy (model prog w) A env (cameBackBy (model prog w) A env E)) s₅) (notedBy (model prog w) A env (cameBackBy (model prog w) A env E)) { s₁ with heap := h₃, toks := tk₃ })
    (h4 : ∀ h' tk, J n h' → Q .next { s₁ with heap := h', toks := tk }) : FRInv prog w A x body env Q E s₁ n hh K
inductive FRArg (prog : Program) (w : World) (A : Around) (x : Str) (body : List Stmt) (env : Env) (Q : Flow → Shared → Prop) (E : Value → Shared → Prop) (xv : Value) (s₁ : Shared) : Prop
  | mk (l : Addr) (n : Nat) (t u v : Tok) (e : xv = .ref l) (hl : IsRange s₁.heap l 0 (n : Nat) 1 t u v) (hn : n ≤ 1000) (k : ∀ hh K, s₁.heap = hh → K = hh.objs.size → FRInv prog w A x body env Q E s₁ n hh K) : FRArg prog w A x body env Q E xv s₁
theorem for_range {iter : Expr} {x : Str} {px : Pos} {body : List Stmt} {pos : Pos} {Q : Flow → Shared → Prop} (hh : A.handled = none)
    (h : wpAny (model prog w) A (eval iter env) (fun xv s₁ => Hold (FRArg prog w A x body env Q E xv s₁)) E s)
    (hs : ∀ x, foldedSetIterable iter env x = pure x := by intro _; rfl) :
    wpAny (model prog w) A (exec (.For (.Name x px) iter body [] pos) env) Q E s := by
  refine for_inv (wpAny_mono h (fun xv s₁ h₁ => ?_) fun _ _ e => e) hs
  obtain ⟨l, n, t, u, v, rfl, hl, hn, h₁⟩ := h₁
  obtain ⟨J, hJ, hframe, hturn, hdone⟩ := h₁ _ _ rfl rfl
  refine wpAny_pyIter_range hl (small_one (by decide) (by decide) (by omega) (by omega)) ?_
  have hsz : Builtin.Range.rangeSize 0 (n : Nat) 1 = (n : Nat) := by
    rw [rangeSize_one]; split <;> omega
  rw [hsz]
  refine ForI.ofK (Ex := fun _ _ => True) (Walks.range hh _ 0 1 n) ?_ hJ ?_ hframe ?_ (fun _ => rfl) ?_ hdone
  · have := Heap.get?_push_size s₁.heap (o := { cls := .type "range_iterator", data := .fields #[rawInt 0, rawInt ((n : Nat) : Int), rawInt 1] }) rfl
    simpa [IsRangeIter] using this
  · rintro i h hoi
    exact ⟨_, hoi, not_soft_fields rfl⟩
  · exact fun i h h' st a _ => a _ st
  · rintro i v' h₃ tk₃ oI hlt' ⟨t', rfl⟩ hoi hs hj
    rw [show (0 : Int) + (i : Nat) * 1 = (i : Nat) by omega]
    refine wpAny_mono (hturn i t' h₃ tk₃ oI hlt' hoi hs hj) (fun _ s₅ h₅ => wpAny_mono h₅ (fun f s₆ h₆ => ?_) fun _ _ e => e) fun _ _ e => e
    cases f with
    | next => exact let ⟨h', tk, e, a, c⟩ := h₆; ⟨h', tk, e, a, trivial, c⟩
    | cont => exact let ⟨h', tk, e, a, c⟩ := h₆; ⟨h', tk, e, a, trivial, c⟩
    | brk => exact h₆
    | ret v => exact h₆

/-- an item of a list of the base -/
theorem sub_list {value slice : PySem.Expr} {h₀ : Heap} {L l : Addr} {m : Str → Option Value} {vs : Array Value} {i : Nat} {t : Tok} {v : Value} {Q : Value → Shared → Prop} (F : Fr h₀ L s.heap m) (hl : h₀.PlainList l vs) (hv : vs[i]? = some v) (hi : i < 1000) (h : Q v s)
    (hs : subscripted slice false (.ref l) (.int (i : Nat) t) = operate [.ref l, .int (i : Nat) t] (getItem (.ref l) (.int (i : Nat) t)) := by with_unfolding_all rfl) :
    wpAny (model prog w) A (subscriptTail value slice (.ref l) (.int (i : Nat) t)) Q E s := by
  have hl' : s.heap.IsList l vs := hl.isList.at fun o e => F.keep _ _ e
  exact tail_any hl'.typeIs PySem.slot_list_getitem.lookup (wpAny_getItem_list hl' (by omega) (by omega) (by simpa using hv) h) hs
end
section
variable {M : Model} {A : Around} {E : Value → Shared → Prop} {s : Shared}
/-- a raise within a loop: the frame has looked at it -/
theorem fly_noted {base h : Heap} {env : Env} {outer : List Env} {L e : Addr} {v : Value} (hfr : A.frames = some (env :: outer)) (hl : h.FunFrames base (env :: outer)) (hf : env.frame = some L) (hx : Fly h (frs (env :: outer)) e v .none s.heap)
    (hE : ∀ h', Fly h (frs (env :: outer)) e v (rawInt L) h' → E (.ref e) { s with heap := h' }) : notedBy M A env (cameBackBy M A env E) (.ref e) s := by
  unfold notedBy
  refine fly_look hfr (hx.up.funFrames hl) hf hx fun h' x => ?_
  unfold cameBackBy
  obtain ⟨hu, hen, vs, T, oT, ts, hx, h1, hnT, hTe, hT, hdT, h3⟩ := x
  obtain ⟨dx, sl, od, he, _⟩ := id hx
  refine wpAny_bind (wpAny_field he rfl h1 ?_)
  rw [if_neg (by simp)]
  have hsz3 : 3 < ts.size := (Array.getElem?_eq_some_iff.mp h3).1
  have other : ∀ b, b ≠ T → (h'.update T (Obj.mapFields (·.setIfInBounds 3 ((some L).elim Value.none fun f => rawInt f)))).get? b = h'.get? b := fun b hb => Heap.get?_update_other _ _ (Ne.symm hb)
  have noRecord : ∀ b o, h'.get? b = some o → (∀ vs, o.data ≠ .fields vs) → b ≠ T := fun b o hb hnf q => by
    rw [q, hT] at hb; cases hb; exact hnf ts hdT
  unfold setFlight
  refine wpAny_bind (wpAny_field he rfl h1 ?_)
  rw [if_pos (show (Value.ref T != Value.none) = true from by simp), hf]
  refine wpAny_setField hT hdT hsz3 (hE _ ⟨fun b o q => ?_, hen, vs, T, _, _, hx.change (fun b o _ hb hnf => ⟨o.slots, (other b (noRecord b o hb hnf)).trans hb⟩) fun dx' sl' q => ⟨sl', (other e (Ne.symm hTe)).trans q⟩, h1, hnT, hTe, Heap.get?_update_self _ hT (Obj.isFreed_of_fields (Obj.data_mapFields hdT _)), Obj.data_mapFields hdT _, by simp [hsz3]⟩)
  have hb : b ≠ T := fun z => by rw [z, hnT] at q; cases q
  obtain ⟨q1, sl, q2⟩ := hu b o q
  exact ⟨fun m => (other b hb).trans (q1 m), sl, (other b hb).trans q2⟩
end
section
variable {M : Model} {A : Around} {E : Value → Shared → Prop} {s s₀ : Shared} {base h₀ h : Heap} {env : Env} {outer : List Env} {L e : Addr} {m : Str → Option Value}
theorem leave_noted {t : Tok} (B : Below A base outer h₀) (F : Fr h₀ L h m) (hx : Fly h (frs (env :: outer)) e (.str (Str.ofString "constraint_error") t) .none s.heap)
    (hE : RaiseE h₀ outer s₀ E) (hs : ∀ h', ∃ tk, { s with heap := h' } = { s₀ with heap := h', toks := tk }) (hf : env.frame = some L := by rfl) (hm : env.scope.kind = .function := by rfl) :
    notedBy M (A.deeper env) env (cameBackBy M (A.deeper env) env (fun e s' => wpAny M (A.deeper env) (leaving env e) (fun _ s'' => E e s'') (fun e' s'' => E e' s'') s')) (.ref e) s := by
  have B' := push_below B F hf (by rw [hm]; decide)
  exact fly_noted B'.stack B'.frames hf hx fun h' x => leave_looked B F x hE (fun h'' => hs h'') hf
end
theorem lines_Range0 : True := by
  k_with "subscriptTail" => (k_here; (with_reducible show wpAny _ _ (subscriptTail _ _ (Value.ref _) (Value.int _ _)) _ _ _); k_dflt (refine' sub_list (by k_asm) (by with_reducible assumption) (by with_reducible assumption) (by omega) ?_; k_whole))
  k_with "call type:range" => (refine hold ?_)
  k_with "my look" => first | with_reducible assumption | (simp +decide only [↓reduceIte]; with_reducible assumption)
  k_with "eval Name" => (k_here; (fail_if_success (with_reducible show wpAny _ _ (eval _ (compEnvC _ _ _ _)) _ _ _)); k_dflt (refine' ld (by k_asm) (by walk_at "my look") ?_; k_whole))
  trivial
/-- the bounds b keep to the range r -/
def okR (b r : Int × Int) : Prop := b.1 ≤ b.2 → r.1 ≤ b.1 ∧ b.2 ≤ r.2
def okRs (bs rs : List (Int × Int)) : Prop := ∀ (i : Nat) (b r : Int × Int), bs[i]? = some b → rs[i]? = some r → okR b r
/-- the lengths looked at so far; the frame's own two names -/
inductive OkI (bs rs : List (Int × Int)) (base : Heap) (L : Addr) (x1 : Str) (v1 : Value) (x2 : Str) (v2 : Value) (i : Nat) (h : Heap) : Prop
  | mk (a1 : ∀ (j : Nat) (c q : Int × Int), j < i → bs[j]? = some c → rs[j]? = some q → okR c q) (m : Str → Option Value) (F : Fr base L h m) (m1 : m x1 = some v1) (m2 : m x2 = some v2) : OkI bs rs base L x1 v1 x2 v2 i h
section
variable {w : World} {dp un : Nat} {fr : Option (List Env)} {gd : Option (List Code)} {E : Value → Shared → Prop} {s : Shared} {Q : Value → Shared → Prop} {mean : ExcName → Option Value} {mg mb : Str → Option Value} {base : Heap} {outer : List Env}
theorem ranges_ok (X : (hd.heap_39 w.params).In s.heap) (T : Top hd.view_39 (looseW hd.view_39 []) mean mg mb s.heap) (B : Below (Ar dp un fr gd) base outer s.heap) (hdep : dp + 11 < recursionLimit) {b r : Addr} {bs rs : List (Int × Int)}
    (H3 : PairsAt s.heap b bs) (hb : bs.length ≤ 100) (H4 : PairsAt s.heap r rs) (hlen : rs.length = bs.length)
    (hQ : okRs bs rs → ∀ h' tk, s.heap.StaysIn h' → Q .none { s with heap := h', toks := tk })
    (hE : ¬ okRs bs rs → RaiseE s.heap outer s E) :
    wpAny (model PySem.Challenge.rw_xw0007_01.prog w) (Ar dp un fr gd) (call (.ref 211) [.ref b, .ref r]) Q E s := by
  obtain ⟨bv, B1, B2⟩ := H3
  obtain ⟨rv, R1, R2⟩ := H4
  have lb : bv.size = bs.length := by
    have := B2.length
    rwa [Array.length_toList] at this
  have lr : rv.size = rs.length := by
    have := R2.length
    rwa [Array.length_toList] at this
  have B3 := B1.isList
  refine' enterE [(Str.ofString "bounds", .ref b), (Str.ofString "ranges", .ref r)] X T.nolimit (by omega) ?ho ?hcd ?hb ?hl ?hc ?h1 ?h2 ?h3 ?_
  case ho => k_is
  case hcd => k_is
  case hb => exact BindsTo.of_eq rfl
  case hl => exact locs rfl
  case hc => decide
  case h1 => rfl
  case h2 => rfl
  case h3 => rfl
  intro L h₁ hL F N
  k_fold
  k_steps
  apply unhold
  refine for_range rfl ?h ?hs
  case hs => intro x; rfl
  k_steps
  apply unhold
  refine call_range_1 ?_
  apply unhold
  refine ⟨_, bv.size, _, _, _, rfl, IsRange.new .., by omega, fun hh K e hK => ?_⟩
  have FH := (F.push { cls := .type "range", data := .fields #[.int 0 (tk + 1 + 1), .int bv.size (tk + 1), .int 1 (tk + 1 + 1 + 1)] })
  rw [show h₁.push _ = hh from e] at FH
  have hK0 : s.heap.get? K = none := stays_none FH.keep (by rw [hK]; exact Heap.get?_none_of_le (Nat.le_refl _))
  have hKL : L ≠ K := fun q => by have := FH.ns.lt; rw [q, hK] at this; exact Nat.lt_irrefl _ this
  clear F N
  refine ⟨OkI bs rs s.heap L (Str.ofString "bounds") (.ref b) (Str.ofString "ranges") (.ref r),
    ⟨fun j c q hj => absurd hj (Nat.not_lt_zero _), _, FH, rfl, rfl⟩, ?_, ?_, ?_⟩
  · rintro i h h' ⟨a1, m, F', m1, m2⟩ hk
    exact ⟨a1, m, fr_at F' (fun b o hb q => hk b o q (.inr hb)) hKL hK0, m1, m2⟩
  · intro i t h3 tk3 oI hi hI hsoft HI
    k_fold
    obtain ⟨hok, m, F3, hm1, hm2⟩ := HI
    obtain ⟨c, p, t1, t2, n1, hc, e1, o1⟩ := B2.get (i := i) (List.getElem?_eq_getElem (by rw [Array.length_toList]; exact hi))
    obtain ⟨q, p2, t3, t4, n2, hq, e2, o2⟩ := R2.get (i := i) (List.getElem?_eq_getElem (by rw [Array.length_toList, lr, hlen, ← lb]; exact hi))
    have hv1 : bv[i]? = some (.ref p) := by rw [← Array.getElem?_toList, List.getElem?_eq_getElem (by rw [Array.length_toList]; exact hi), e1]
    have hv2 : rv[i]? = some (.ref p2) := by rw [← Array.getElem?_toList, List.getElem?_eq_getElem (by rw [Array.length_toList, lr, hlen, ← lb]; exact hi), e2]
    have hT1 : IsTup s.heap p #[.int c.1 t1, .int c.2 t2] := ⟨_, o1, rfl, _, rfl⟩
    have hT2 : IsTup s.heap p2 #[.int q.1 t3, .int q.2 t4] := ⟨_, o2, rfl, _, rfl⟩
    obtain ⟨gl, NG, back⟩ := snapAll F3
    clear e1 e2
    k_steps
    rotate_left 2
    · with_reducible rename Fr _ _ _ _ => F2
      with_reducible rename News _ _ _ _ => N2
      apply unhold
      refine ⟨_, _, rfl, back _ _ F2 N2 K oI hI (Ne.symm hKL), fun j c' q' hj h1 h2 => ?_, _, F2, by simp +decide only [↓reduceIte]; exact hm1, by simp +decide only [↓reduceIte]; exact hm2⟩
      rcases Nat.lt_succ_iff_lt_or_eq.mp hj with hj | rfl
      · exact hok j c' q' hj h1 h2
      · rw [hc] at h1; cases h1
        rw [hq] at h2; cases h2
        unfold okR; omega
    · with_reducible rename Fr _ _ _ _ => F2
      with_reducible rename News _ _ _ _ => N2
      apply unhold
      refine ⟨_, _, rfl, back _ _ F2 N2 K oI hI (Ne.symm hKL), fun j c' q' hj h1 h2 => ?_, _, F2, by simp +decide only [↓reduceIte]; exact hm1, by simp +decide only [↓reduceIte]; exact hm2⟩
      rcases Nat.lt_succ_iff_lt_or_eq.mp hj with hj | rfl
      · exact hok j c' q' hj h1 h2
      · rw [hc] at h1; cases h1
        rw [hq] at h2; cases h2
        unfold okR; omega
    all_goals
      with_reducible rename Fr _ _ _ _ => F2
      have hne : ¬ okRs bs rs := fun z => by
        have z1 := z i c q hc hq
        unfold okR at z1
        omega
      apply unhold
      refine raise_ok (X.keeps F2.keep) (T.keeps F2.keep) (push_below B F2 rfl (by simp)) (by walk_at "my room") fun h4 tk4 e4 t4 x4 => ?_
      exact leave_noted B F2 x4 (hE hne) fun h' => ⟨_, rfl⟩
  · rintro h' tk ⟨hok, m, F3, _⟩
    have N3 : News s.heap L h' [] := News.nil
    clear FH
    k_steps
    exact hQ (fun i c q h1 h2 => hok i c q (by have := (List.getElem?_eq_some_iff.mp h1).1; omega) h1 h2) _ _ F3.keep
end
section
variable {prog : Program} {w : World} {A : Around} {E : Value → Shared → Prop} {s : Shared} {env : Env}
/-- a while loop whose test is false at once -/
theorem while_out {test : Expr} {body : List Stmt} {pos : Pos} {Q : Flow → Shared → Prop}
    (h : wpAny (model prog w) A (isTrue test env (eval test env)) (fun b s₂ => b = false ∧ Q .next s₂) (notedBy (model prog w) A env (cameBackBy (model prog w) A env E)) s) :
    wpAny (model prog w) A (exec (.While test body [] pos) env) Q E s := by
  refine wpAny_While (codeAny_whileLoop (fun _ s' => s' = s) (fun n s' e => ?_) 0 rfl)
  subst e
  refine wpAny_mono h (fun b s₂ h₂ => ?_) fun _ _ y => y
  obtain ⟨rfl, h₂⟩ := h₂
  exact wpAny_execs_nil h₂
end
theorem lines_While : True := by
  k_with "exec" => (k_here; (with_reducible show wpAny _ _ (exec (Stmt.While _ _ [] _) _) _ _ _); refine while_out ?_)
  trivial
/-- what is asked of a type object -/
structure TyH (h : Heap) (ty dx : Addr) (kind : Str) (num : Int) (low high index : Value) (isC : Bool) : Prop where
  kind : ∃ t, Has h ty dx 229 (Str.ofString "kind") (.str kind t)
  number : ∃ t, Has h ty dx 229 (Str.ofString "number") (.int num t)
  low : Has h ty dx 229 (Str.ofString "low") low
  high : Has h ty dx 229 (Str.ofString "high") high
  index : Has h ty dx 229 (Str.ofString "index") index
  isC : Has h ty dx 229 (Str.ofString "is_constrained") (.bool isC)
  tagged : Has h ty dx 229 (Str.ofString "is_tagged") (.bool false)
theorem TyH.stays {h h' : Heap} {ty dx : Addr} {kind : Str} {num : Int} {low high index : Value} {isC : Bool} (x : TyH h ty dx kind num low high index isC) (k : h.StaysIn h') : TyH h' ty dx kind num low high index isC :=
  ⟨let ⟨t, y⟩ := x.kind; ⟨t, y.stays k⟩, let ⟨t, y⟩ := x.number; ⟨t, y.stays k⟩, x.low.stays k, x.high.stays k, x.index.stays k, x.isC.stays k, x.tagged.stays k⟩
def SubAt (h : Heap) (a ty : Addr) (con : Value) : Prop := ∃ dx, Has h a dx 250 (Str.ofString "type") (.ref ty) ∧ Has h a dx 250 (Str.ofString "constraint") con
theorem SubAt.stays {h h' : Heap} {a ty : Addr} {con : Value} (x : SubAt h a ty con) (k : h.StaysIn h') : SubAt h' a ty con := let ⟨dx, y, z⟩ := x; ⟨dx, y.stays k, z.stays k⟩
def IdxL (h : Heap) (whole : Addr) : List Value → List (Int × Int) → Prop
  | [], [] => True
  | v :: vs, b :: bs => (∃ a c t t1 t2 n, v = .ref a ∧ SubAt h a whole (.ref c) ∧ h.get? c = some { cls := .type "tuple", data := .seq #[.str (Str.ofString "range") t, .int b.1 t1, .int b.2 t2] n }) ∧ IdxL h whole vs bs
  | _, _ => False
theorem IdxL.stays {h h' : Heap} {whole : Addr} (k : h.StaysIn h') : ∀ {vs : List Value} {bs : List (Int × Int)}, IdxL h whole vs bs → IdxL h' whole vs bs
  | [], [], _ => trivial
  | _ :: _, _ :: _, ⟨⟨a, c, t, t1, t2, n, e, x, y⟩, r⟩ => ⟨⟨a, c, t, t1, t2, n, e, x.stays k, k _ _ y⟩, r.stays k⟩
theorem IdxL.length {h : Heap} {whole : Addr} : ∀ {vs : List Value} {bs : List (Int × Int)}, IdxL h whole vs bs → vs.length = bs.length
  | [], [], _ => rfl
  | _ :: _, _ :: _, ⟨_, r⟩ => by rw [List.length_cons, List.length_cons, r.length]
theorem IdxL.get {h : Heap} {whole : Addr} : ∀ {vs : List Value} {bs : List (Int × Int)}, IdxL h whole vs bs → ∀ {i : Nat} {v : Value}, vs[i]? = some v → ∃ b a c t t1 t2 n, bs[i]? = some b ∧ v = .ref a ∧ SubAt h a whole (.ref c) ∧ h.get? c = some { cls := .type "tuple", data := .seq #[.str (Str.ofString "range") t, .int b.1 t1, .int b.2 t2] n }
  | [], [], _, i, v, e => by simp at e
  | _ :: _, b :: _, ⟨⟨a, c, t, t1, t2, n, e, x, y⟩, r⟩, i, v, q => by
    cases i with
    | zero => simp at q; subst q; exact ⟨b, a, c, t, t1, t2, n, by simp, e, x, y⟩
    | succ i => simp at q; obtain ⟨b', y⟩ := r.get q; exact ⟨b', by simpa using y⟩
def IdxAt (h : Heap) (l whole : Addr) (bs : List (Int × Int)) : Prop := ∃ vs, h.PlainList l vs ∧ IdxL h whole vs.toList bs
theorem IdxAt.stays {h h' : Heap} {l whole : Addr} {bs : List (Int × Int)} (x : IdxAt h l whole bs) (k : h.StaysIn h') : IdxAt h' l whole bs := let ⟨vs, p, r⟩ := x; ⟨vs, p.at fun o e => k _ _ e, r.stays k⟩
theorem PairsAt.stays {h h' : Heap} {l : Addr} {bs : List (Int × Int)} (x : PairsAt h l bs) (k : h.StaysIn h') : PairsAt h' l bs := let ⟨vs, p, r⟩ := x; ⟨vs, p.at fun o e => k _ _ e, r.keep fun b o e _ => k _ _ e⟩
theorem PairL.snoc {h : Heap} : ∀ {vs : List Value} {bs : List (Int × Int)} {p : Addr} {c : Int × Int} {t1 t2 : Tok} {n : Nat}, PairL h vs bs → h.get? p = some { cls := .type "tuple", data := .seq #[.int c.1 t1, .int c.2 t2] n } → PairL h (vs ++ [.ref p]) (bs ++ [c])
  | [], [], _, _, _, _, _, _, o => ⟨⟨_, _, _, _, rfl, o⟩, trivial⟩
  | _ :: _, _ :: _, _, _, _, _, _, ⟨a, r⟩, o => ⟨a, r.snoc o⟩
section
variable {w : World} {dp un : Nat} {fr : Option (List Env)} {gd : Option (List Code)} {E : Value → Shared → Prop} {s : Shared} {Q : Value → Shared → Prop} {mean : ExcName → Option Value} {mg mb : Str → Option Value} {base : Heap} {outer : List Env}
theorem full_sub_ok (X : (hd.heap_39 w.params).In s.heap) (T : Top hd.view_39 (looseW hd.view_39 []) mean mg mb s.heap) (hdep : dp + 2 < recursionLimit) {a ty tdx : Addr} {con : Value} {kind : Str} {t : Tok} (H : SubAt s.heap a ty con) (K : Has s.heap ty tdx 229 (Str.ofString "kind") (.str kind t)) (hk : kind = Str.ofString "array" ∨ kind = Str.ofString "record" ∨ kind = Str.ofString "int")
    (hQ : ∀ h' tk, s.heap.StaysIn h' → Q (.ref a) { s with heap := h', toks := tk }) :
    wpAny (model PySem.Challenge.rw_xw0007_01.prog w) (Ar dp un fr gd) (call (.ref 331) [.ref a]) Q E s := by
  obtain ⟨dx, H1, H2⟩ := H
  rcases hk with rfl | rfl | rfl
  ·
    refine' enter [(Str.ofString "subtype", .ref a)] X T.nolimit (by omega) ?ho ?hcd ?hb ?hl ?hc ?h1 ?h2 ?h3 ?_
    case ho => k_is
    case hcd => k_is
    case hb => exact BindsTo.of_eq rfl
    case hl => exact locs rfl
    case hc => decide
    case h1 => rfl
    case h2 => rfl
    case h3 => rfl
    intro L h₁ hL F N
    k_fold
    k_steps
    with_reducible rename Fr _ _ _ _ => F2
    exact hQ _ _ F2.keep
  ·
    refine' enter [(Str.ofString "subtype", .ref a)] X T.nolimit (by omega) ?ho ?hcd ?hb ?hl ?hc ?h1 ?h2 ?h3 ?_
    case ho => k_is
    case hcd => k_is
    case hb => exact BindsTo.of_eq rfl
    case hl => exact locs rfl
    case hc => decide
    case h1 => rfl
    case h2 => rfl
    case h3 => rfl
    intro L h₁ hL F N
    k_fold
    k_steps
    with_reducible rename Fr _ _ _ _ => F2
    exact hQ _ _ F2.keep
  ·
    refine' enter [(Str.ofString "subtype", .ref a)] X T.nolimit (by omega) ?ho ?hcd ?hb ?hl ?hc ?h1 ?h2 ?h3 ?_
    case ho => k_is
    case hcd => k_is
    case hb => exact BindsTo.of_eq rfl
    case hl => exact locs rfl
    case hc => decide
    case h1 => rfl
    case h2 => rfl
    case h3 => rfl
    intro L h₁ hL F N
    k_fold
    k_steps
    with_reducible rename Fr _ _ _ _ => F2
    exact hQ _ _ F2.keep
theorem full_type_ok (X : (hd.heap_39 w.params).In s.heap) (T : Top hd.view_39 (looseW hd.view_39 []) mean mg mb s.heap) (hdep : dp + 2 < recursionLimit) {ty tdx : Addr} {kind : Str} {t : Tok} (K : Has s.heap ty tdx 229 (Str.ofString "kind") (.str kind t)) (hk : kind = Str.ofString "array" ∨ kind = Str.ofString "record" ∨ kind = Str.ofString "int")
    (hQ : ∀ h' tk, s.heap.StaysIn h' → Q (.ref ty) { s with heap := h', toks := tk }) :
    wpAny (model PySem.Challenge.rw_xw0007_01.prog w) (Ar dp un fr gd) (call (.ref 338) [.ref ty]) Q E s := by
  rcases hk with rfl | rfl | rfl
  ·
    refine' enter [(Str.ofString "t", .ref ty)] X T.nolimit (by omega) ?ho ?hcd ?hb ?hl ?hc ?h1 ?h2 ?h3 ?_
    case ho => k_is
    case hcd => k_is
    case hb => exact BindsTo.of_eq rfl
    case hl => exact locs rfl
    case hc => decide
    case h1 => rfl
    case h2 => rfl
    case h3 => rfl
    intro L h₁ hL F N
    k_fold
    k_steps
    exact hQ _ _ F.keep
  ·
    refine' enter [(Str.ofString "t", .ref ty)] X T.nolimit (by omega) ?ho ?hcd ?hb ?hl ?hc ?h1 ?h2 ?h3 ?_
    case ho => k_is
    case hcd => k_is
    case hb => exact BindsTo.of_eq rfl
    case hl => exact locs rfl
    case hc => decide
    case h1 => rfl
    case h2 => rfl
    case h3 => rfl
    intro L h₁ hL F N
    k_fold
    k_steps
    exact hQ _ _ F.keep
  ·
    refine' enter [(Str.ofString "t", .ref ty)] X T.nolimit (by omega) ?ho ?hcd ?hb ?hl ?hc ?h1 ?h2 ?h3 ?_
    case ho => k_is
    case hcd => k_is
    case hb => exact BindsTo.of_eq rfl
    case hl => exact locs rfl
    case hc => decide
    case h1 => rfl
    case h2 => rfl
    case h3 => rfl
    intro L h₁ hL F N
    k_fold
    k_steps
    exact hQ _ _ F.keep
theorem bounds_of_ok (X : (hd.heap_39 w.params).In s.heap) (T : Top hd.view_39 (looseW hd.view_39 []) mean mg mb s.heap) (hdep : dp + 2 < recursionLimit) {a ty c : Addr} {b : Int × Int} {t t1 t2 : Tok} {n : Nat} (H : SubAt s.heap a ty (.ref c)) (o : s.heap.get? c = some { cls := .type "tuple", data := .seq #[.str (Str.ofString "range") t, .int b.1 t1, .int b.2 t2] n })
    (hQ : ∀ h' tk p t1 t2 n, s.heap.StaysIn h' → h'.get? p = some { cls := .type "tuple", data := .seq #[.int b.1 t1, .int b.2 t2] n } → Q (.ref p) { s with heap := h', toks := tk }) :
    wpAny (model PySem.Challenge.rw_xw0007_01.prog w) (Ar dp un fr gd) (call (.ref 429) [.ref a]) Q E s := by
  obtain ⟨dx, H1, H2⟩ := H
  have hT : IsTup s.heap c #[.str (Str.ofString "range") t, .int b.1 t1, .int b.2 t2] := ⟨_, o, rfl, _, rfl⟩
  refine' enter [(Str.ofString "subtype", .ref a)] X T.nolimit (by omega) ?ho ?hcd ?hb ?hl ?hc ?h1 ?h2 ?h3 ?_
  case ho => k_is
  case hcd => k_is
  case hb => exact BindsTo.of_eq rfl
  case hl => exact locs rfl
  case hc => decide
  case h1 => rfl
  case h2 => rfl
  case h3 => rfl
  intro L h₁ hL F N
  k_fold
  k_steps
  with_reducible rename Fr _ _ _ _ => F2
  with_reducible rename News _ _ _ _ => N2
  exact hQ _ _ _ _ _ _ F2.keep (N2 _ (.head _)).1
end
section
variable {w : World} {dp un : Nat} {fr : Option (List Env)} {gd : Option (List Code)} {E : Value → Shared → Prop} {s : Shared} {Q : Value → Shared → Prop} {mean : ExcName → Option Value} {mg mb : Str → Option Value} {base : Heap} {outer : List Env}
theorem kinds212 : ∃ xs n, (hd.heap_39 w.params).lookup 212 = some { cls := .type "tuple", data := .seq xs n } ∧ ∃ t1 t2 t3 t4 t5, xs = #[.str (Str.ofString "enum") t1, .str (Str.ofString "int") t2, .str (Str.ofString "mod") t3, .str (Str.ofString "fixed") t4, .str (Str.ofString "universal") t5] :=
  ⟨_, _, rfl, _, _, _, _, _, rfl⟩
theorem scalar_ok (X : (hd.heap_39 w.params).In s.heap) (T : Top hd.view_39 (looseW hd.view_39 []) mean mg mb s.heap) (hdep : dp + 2 < recursionLimit) {ty tdx : Addr} {kind : Str} {t : Tok} (K : Has s.heap ty tdx 229 (Str.ofString "kind") (.str kind t)) (hk : kind = Str.ofString "array" ∨ kind = Str.ofString "record")
    (hQ : ∀ h' tk, s.heap.StaysIn h' → Q (.bool false) { s with heap := h', toks := tk }) :
    wpAny (model PySem.Challenge.rw_xw0007_01.prog w) (Ar dp un fr gd) (call (.ref 310) [.ref ty]) Q E s := by
  obtain ⟨xs, n, hl, t1, t2, t3, t4, t5, rfl⟩ := kinds212 (w := w)
  have hT : IsTup s.heap 212 #[.str (Str.ofString "enum") t1, .str (Str.ofString "int") t2, .str (Str.ofString "mod") t3, .str (Str.ofString "fixed") t4, .str (Str.ofString "universal") t5] := ⟨_, X _ _ hl, rfl, _, rfl⟩
  rcases hk with rfl | rfl
  ·
    refine' enter [(Str.ofString "t", .ref ty)] X T.nolimit (by omega) ?ho ?hcd ?hb ?hl ?hc ?h1 ?h2 ?h3 ?_
    case ho => k_is
    case hcd => k_is
    case hb => exact BindsTo.of_eq rfl
    case hl => exact locs rfl
    case hc => decide
    case h1 => rfl
    case h2 => rfl
    case h3 => rfl
    intro L h₁ hL F N
    k_fold
    k_steps
    with_reducible rename Fr _ _ _ _ => F2
    exact hQ _ _ F2.keep
  ·
    refine' enter [(Str.ofString "t", .ref ty)] X T.nolimit (by omega) ?ho ?hcd ?hb ?hl ?hc ?h1 ?h2 ?h3 ?_
    case ho => k_is
    case hcd => k_is
    case hb => exact BindsTo.of_eq rfl
    case hl => exact locs rfl
    case hc => decide
    case h1 => rfl
    case h2 => rfl
    case h3 => rfl
    intro L h₁ hL F N
    k_fold
    k_steps
    with_reducible rename Fr _ _ _ _ => F2
    exact hQ _ _ F2.keep
theorem numeric_ok (X : (hd.heap_39 w.params).In s.heap) (T : Top hd.view_39 (looseW hd.view_39 []) mean mg mb s.heap) (hdep : dp + 2 < recursionLimit) {ty tdx : Addr} {t : Tok} (K : Has s.heap ty tdx 229 (Str.ofString "kind") (.str (Str.ofString "array") t))
    (hQ : ∀ h' tk, s.heap.StaysIn h' → Q (.bool false) { s with heap := h', toks := tk }) :
    wpAny (model PySem.Challenge.rw_xw0007_01.prog w) (Ar dp un fr gd) (call (.ref 317) [.ref ty]) Q E s := by
  refine' enter [(Str.ofString "t", .ref ty)] X T.nolimit (by omega) ?ho ?hcd ?hb ?hl ?hc ?h1 ?h2 ?h3 ?_
  case ho => k_is
  case hcd => k_is
  case hb => exact BindsTo.of_eq rfl
  case hl => exact locs rfl
  case hc => decide
  case h1 => rfl
  case h2 => rfl
  case h3 => rfl
  intro L h₁ hL F N
  k_fold
  k_steps
  with_reducible rename Fr _ _ _ _ => F2
  exact hQ _ _ F2.keep
theorem index_ok (X : (hd.heap_39 w.params).In s.heap) (T : Top hd.view_39 (looseW hd.view_39 []) mean mg mb s.heap) (hdep : dp + 4 < recursionLimit) {ty tdx il whole : Addr} {bs : List (Int × Int)} (H : Has s.heap ty tdx 229 (Str.ofString "index") (.ref il)) (I : IdxAt s.heap il whole bs) (hb : bs.length ≤ 100)
    (hQ : ∀ h' tk l, s.heap.StaysIn h' → PairsAt h' l bs → Q (.ref l) { s with heap := h', toks := tk }) :
    wpAny (model PySem.Challenge.rw_xw0007_01.prog w) (Ar dp un fr gd) (call (.ref 525) [.ref ty]) Q E s := by
  obtain ⟨vs, I1, I2⟩ := I
  have I3 := I1.isList
  have isz : vs.size ≤ sizeLine := by
    have := I2.length
    rw [Array.length_toList] at this
    rw [this, sizeLine]; omega
  refine' enter [(Str.ofString "t", .ref ty)] X T.nolimit (by omega) ?ho ?hcd ?hb ?hl ?hc ?h1 ?h2 ?h3 ?_
  case ho => k_is
  case hcd => k_is
  case hb => exact BindsTo.of_eq rfl
  case hl => exact locs rfl
  case hc => decide
  case h1 => rfl
  case h2 => rfl
  case h3 => rfl
  intro L h₁ hL F N
  k_fold
  k_steps
  apply unhold
  refine' comp_list (cl := []) ?hh ?hclos ?hcell ?hkind ?hnames ?hx ?h ?hs
  walk_at "my comp"
  k_steps
  refine ⟨il, vs, rfl, I3.at fun o e => F.keep _ _ e, isz, fun hh K e hK => ?_⟩
  obtain rfl : h₁ = hh := e
  refine ⟨[], fun i ys h => PairL h ys (bs.take i), (fun _ hb => absurd hb List.not_mem_nil), List.not_mem_nil, trivial, fun i ys h h' x k => x.keep fun b o e sf => k b o e (.inl sf), ?_, ?_⟩
  · intro i v ys h3 g3 d3 t3 os3 m₃ hv hI hns hm hsz hlv hk
    obtain ⟨b, a, c, t, t1, t2, n, hb', rfl, hsub, ho⟩ := I2.get (by simpa using hv)
    have FC : Fr h₁ (K + 2) h3 m₃ := ⟨hns, fun b o e => hk b o List.not_mem_nil e, by rw [hK]; exact Nat.le_add_right _ _⟩
    have NC : News h₁ (K + 2) h3 [] := News.nil
    have X3 := X.keeps F.keep
    have T3 := T.keeps F.keep
    have k03 : s.heap.StaysIn h3 := stays_trans F.keep FC.keep
    clear F N
    k_steps
    apply unhold
    refine bounds_of_ok (X3.keeps FC.keep) (T3.keeps FC.keep) (by walk_at "my room") (hsub.stays k03) (k03 _ _ ho) fun h4 tk4 p t1 t2 n hk4 o4 => ?_
    k_unfold
    refine ⟨_, _, rfl, fun b o _ hb e => hk4 b o e, ⟨_, FC.ns.keeps hk4⟩, ?_⟩
    show PairL _ _ _
    rw [take_snoc hb']
    exact PairL.snoc (hI.keep fun b o e _ => hk4 b o e) o4
  · intro h' tk ys hpl hsz hI hk
    have hk2 : h₁.StaysIn h' := fun b o e => hk b o List.not_mem_nil e
    have F2 := Fr.keeps F hk2
    have N2 := News.grown N hk2
    have hlen : vs.size = bs.length := by
      have := I2.length
      rwa [Array.length_toList] at this
    rw [hlen, List.take_length] at hI
    clear F N
    k_steps
    exact hQ _ _ (K + 1) F2.keep ⟨ys, hpl, hI⟩

/-- no constraint, and the type leaves its index free -/
theorem fixed_free (X : (hd.heap_39 w.params).In s.heap) (T : Top hd.view_39 (looseW hd.view_39 []) mean mg mb s.heap) (hdep : dp + 4 < recursionLimit) {a ty tdx : Addr} {num : Int} {low high index : Value} (H : SubAt s.heap a ty .none) (K : TyH s.heap ty tdx (Str.ofString "array") num low high index false)
    (hQ : ∀ h' tk, s.heap.StaysIn h' → Q .none { s with heap := h', toks := tk }) :
    wpAny (model PySem.Challenge.rw_xw0007_01.prog w) (Ar dp un fr gd) (call (.ref 532) [.ref a]) Q E s := by
  obtain ⟨dx, H1, H2⟩ := id H
  obtain ⟨kt, K1⟩ := K.kind
  have K2 := K.isC
  refine' enter [(Str.ofString "subtype", .ref a)] X T.nolimit (by omega) ?ho ?hcd ?hb ?hl ?hc ?h1 ?h2 ?h3 ?_
  case ho => k_is
  case hcd => k_is
  case hb => exact BindsTo.of_eq rfl
  case hl => exact locs rfl
  case hc => decide
  case h1 => rfl
  case h2 => rfl
  case h3 => rfl
  intro L h₁ hL F N
  k_fold
  k_steps
  apply unhold
  refine full_sub_ok (X.keeps F.keep) (T.keeps F.keep) (by walk_at "my room") (H.stays F.keep) (K1.stays F.keep) (.inl rfl) fun h2 tk2 hk2 => ?_
  have F2 := Fr.keeps F hk2
  have N2 := News.grown N hk2
  clear F N
  k_steps
  with_reducible rename Fr _ _ _ _ => F3
  exact hQ _ _ F3.keep
/-- an index constraint -/
theorem fixed_bound (X : (hd.heap_39 w.params).In s.heap) (T : Top hd.view_39 (looseW hd.view_39 []) mean mg mb s.heap) (hdep : dp + 4 < recursionLimit) {a ty tdx c l : Addr} {num : Int} {low high index : Value} {isC : Bool} {t : Tok} {n : Nat} (H : SubAt s.heap a ty (.ref c)) (o : s.heap.get? c = some { cls := .type "tuple", data := .seq #[.str (Str.ofString "index") t, .ref l] n }) (K : TyH s.heap ty tdx (Str.ofString "array") num low high index isC)
    (hQ : ∀ h' tk, s.heap.StaysIn h' → Q (.ref l) { s with heap := h', toks := tk }) :
    wpAny (model PySem.Challenge.rw_xw0007_01.prog w) (Ar dp un fr gd) (call (.ref 532) [.ref a]) Q E s := by
  obtain ⟨dx, H1, H2⟩ := id H
  obtain ⟨kt, K1⟩ := K.kind
  have hT : IsTup s.heap c #[.str (Str.ofString "index") t, .ref l] := ⟨_, o, rfl, _, rfl⟩
  refine' enter [(Str.ofString "subtype", .ref a)] X T.nolimit (by omega) ?ho ?hcd ?hb ?hl ?hc ?h1 ?h2 ?h3 ?_
  case ho => k_is
  case hcd => k_is
  case hb => exact BindsTo.of_eq rfl
  case hl => exact locs rfl
  case hc => decide
  case h1 => rfl
  case h2 => rfl
  case h3 => rfl
  intro L h₁ hL F N
  k_fold
  k_steps
  apply unhold
  refine full_sub_ok (X.keeps F.keep) (T.keeps F.keep) (by walk_at "my room") (H.stays F.keep) (K1.stays F.keep) (.inl rfl) fun h2 tk2 hk2 => ?_
  have F2 := Fr.keeps F hk2
  have N2 := News.grown N hk2
  clear F N
  k_steps
  with_reducible rename Fr _ _ _ _ => F3
  exact hQ _ _ F3.keep
end
/-- the bounds that are due -/
def Due (bs rs : List (Int × Int)) : Option (List (Int × Int)) → List (Int × Int) → Prop
  | none, r => r = bs ∧ okRs bs rs
  | some as, r => r = as ∧ bs.map lenOf = as.map lenOf
/-- a constraint as it stands in a subtype -/
def ConAt (h : Heap) : Option (List (Int × Int)) → Value → Prop
  | none, v => v = .none
  | some as, v => as.length ≤ 100 ∧ ∃ c l t n, v = .ref c ∧ h.get? c = some { cls := .type "tuple", data := .seq #[.str (Str.ofString "index") t, .ref l] n } ∧ PairsAt h l as
theorem ConAt.stays {h h' : Heap} {as : Option (List (Int × Int))} {v : Value} (x : ConAt h as v) (k : h.StaysIn h') : ConAt h' as v := by
  cases as with
  | none => exact x
  | some as => exact ⟨x.1, let ⟨c, l, t, n, e, o, p⟩ := x.2; ⟨c, l, t, n, e, k _ _ o, p.stays k⟩⟩
section
variable {w : World} {dp un : Nat} {fr : Option (List Env)} {gd : Option (List Code)} {E : Value → Shared → Prop} {s : Shared} {Q : Value → Shared → Prop} {mean : ExcName → Option Value} {mg mb : Str → Option Value} {base : Heap} {outer : List Env}

theorem fitted_ok {n : Nat} {Z : Addr → Prop} {items : List D} {bs rs : List (Int × Int)} {asked : Option (List (Int × Int))} {S : List Addr} {v : Addr} (X : (hd.heap_39 w.params).In s.heap) (T : Top hd.view_39 (looseW hd.view_39 []) mean mg mb s.heap) (B : Below (Ar dp un fr gd) base outer s.heap) (hdep : dp + n + 16 < recursionLimit) (hu : un + 6 * n + 100 < cLine) (hz : (∀ x, Z x → ∃ o, s.heap.get? x = some o))
    {a ty tdx il whole : Addr} {num : Int} {low high con : Value} (H : SubAt s.heap a ty con) (C : ConAt s.heap asked con) (K : TyH s.heap ty tdx (Str.ofString "array") num low high (.ref il) false) (I : IdxAt s.heap il whole rs) (hlen : rs.length = bs.length)
    (V : Lies PySem.Challenge.rw_xw0007_01.prog w s.heap Z (n + 1) S (.ref v) (.arr bs items))
    (hQ : ∀ r, Due bs rs asked r → ∀ h' tk v' S', s.heap.StaysIn h' → Lies PySem.Challenge.rw_xw0007_01.prog w h' Z (n + 1) S' v' (.arr r items) → (∀ x ∈ S', s.heap.get? x = none) → S'.Nodup → Q v' { s with heap := h', toks := tk })
    (hE : (∀ r, ¬ Due bs rs asked r) → RaiseE s.heap outer s E) :
    wpAny (model PySem.Challenge.rw_xw0007_01.prog w) (Ar dp un fr gd) (call (.ref 539) [.ref a, .ref v]) Q E s := by
  obtain ⟨a', dx, b, l, vs, S', e1, e2, i1, i2, B3, pl, hit, hbs, hits⟩ := id V
  cases e1
  obtain ⟨sdx, H1, H2⟩ := id H
  have hI := K.index
  refine' enterE [(Str.ofString "subtype", .ref a), (Str.ofString "value", .ref v)] X T.nolimit (by omega) ?ho ?hcd ?hb ?hl ?hc ?h1 ?h2 ?h3 ?_
  case ho => k_is
  case hcd => k_is
  case hb => exact BindsTo.of_eq rfl
  case hl => exact locs rfl
  case hc => decide
  case h1 => rfl
  case h2 => rfl
  case h3 => rfl
  intro L h₁ hL F N
  k_fold
  k_steps
  apply unhold
  cases asked with
  | none =>
    obtain rfl : con = .none := C
    refine fixed_free (X.keeps F.keep) (T.keeps F.keep) (by walk_at "my room") (H.stays F.keep) (K.stays F.keep) fun h2 tk2 hk2 => ?_
    have F2 := Fr.keeps F hk2
    have N2 := News.grown N hk2
    clear F N
    k_steps
    apply unhold
    with_reducible rename Fr _ _ _ _ => F3
    with_reducible rename News _ _ _ _ => N3
    refine index_ok (X.keeps F3.keep) (T.keeps F3.keep) (by walk_at "my room") (hI.stays F3.keep) (I.stays F3.keep) (by omega) fun h4 tk4 rl hk4 hR => ?_
    have F4 := Fr.keeps F3 hk4
    have N4 := News.grown N3 hk4
    clear F3 N3
    k_steps
    apply unhold
    refine ranges_ok (X.keeps F4.keep) (T.keeps F4.keep) (push_below B F4 rfl (by simp)) (by walk_at "my room") (PairsAt.stays B3 F4.keep) hbs hR hlen (fun hok h5 tk5 hk5 => ?_) (fun hne h5 tk5 e5 t5 x5 => leave_passed B F4 x5 (hE fun r q => hne q.2) fun h' => ⟨_, rfl⟩)
    have F5 := Fr.keeps F4 hk5
    have N5 := News.grown N4 hk5
    clear F4 N4
    k_steps
    apply unhold
    refine copy_ok (n + 1) (X.keeps F5.keep) (T.keeps F5.keep) (by walk_at "my room") (by walk_at "my room") (fun x q => let ⟨o, e⟩ := hz x q; ⟨o, F5.keep _ _ e⟩) (V.stays F5.keep) fun h6 tk6 v6 S6 hk6 l6 hx6 nd6 => ?_
    exact hQ bs ⟨rfl, hok⟩ _ _ _ _ (stays_trans F5.keep hk6) l6 (fun x hx => stays_none F5.keep (hx6 x hx)) nd6
  | some as =>
    obtain ⟨has, c, l2, t, n2, rfl, o, hP⟩ := C
    refine fixed_bound (X.keeps F.keep) (T.keeps F.keep) (by walk_at "my room") (H.stays F.keep) (F.keep _ _ o) (K.stays F.keep) fun h2 tk2 hk2 => ?_
    have F2 := Fr.keeps F hk2
    have N2 := News.grown N hk2
    clear F N
    k_steps
    apply unhold
    with_reducible rename Fr _ _ _ _ => F3
    refine slide_ok (X.keeps F3.keep) (T.keeps F3.keep) (push_below B F3 rfl (by simp)) (by walk_at "my room") (by walk_at "my room") (fun x q => let ⟨o, e⟩ := hz x q; ⟨o, F3.keep _ _ e⟩) (i1.stays F3.keep) (i2.stays F3.keep) (PairsAt.stays B3 F3.keep) (pl.at fun o e => F3.keep _ _ e) (hit.stays F3.keep) hbs hits (hP.stays F3.keep) has (fun heq h6 tk6 v6 S6 hk6 l6 hx6 nd6 => ?_) (fun hne h5 tk5 e5 t5 x5 => leave_passed B F3 x5 (hE fun r q => hne q.2) fun h' => ⟨_, rfl⟩)
    exact hQ as ⟨rfl, heq⟩ _ _ _ _ (stays_trans F3.keep hk6) l6 (fun x hx => stays_none F3.keep (hx6 x hx)) nd6
end
section
variable {w : World} {dp un : Nat} {fr : Option (List Env)} {gd : Option (List Code)} {E : Value → Shared → Prop} {s : Shared} {Q : Value → Shared → Prop} {mean : ExcName → Option Value} {mg mb : Str → Option Value} {base : Heap} {outer : List Env}
theorem fit_ok {n : Nat} {Z : Addr → Prop} {items : List D} {bs rs : List (Int × Int)} {asked : Option (List (Int × Int))} {S : List Addr} {v : Addr} (X : (hd.heap_39 w.params).In s.heap) (T : Top hd.view_39 (looseW hd.view_39 []) mean mg mb s.heap) (B : Below (Ar dp un fr gd) base outer s.heap) (hdep : dp + n + 18 < recursionLimit) (hu : un + 6 * n + 110 < cLine) (hz : (∀ x, Z x → ∃ o, s.heap.get? x = some o))
    {a ty tdx il whole : Addr} {num : Int} {low high con : Value} (H : SubAt s.heap a ty con) (C : ConAt s.heap asked con) (K : TyH s.heap ty tdx (Str.ofString "array") num low high (.ref il) false) (I : IdxAt s.heap il whole rs) (hlen : rs.length = bs.length)
    (V : Lies PySem.Challenge.rw_xw0007_01.prog w s.heap Z (n + 1) S (.ref v) (.arr bs items))
    (hQ : ∀ r, Due bs rs asked r → ∀ h' tk v' S', s.heap.StaysIn h' → Lies PySem.Challenge.rw_xw0007_01.prog w h' Z (n + 1) S' v' (.arr r items) → (∀ x ∈ S', s.heap.get? x = none) → S'.Nodup → Q v' { s with heap := h', toks := tk })
    (hE : (∀ r, ¬ Due bs rs asked r) → RaiseE s.heap outer s E) :
    wpAny (model PySem.Challenge.rw_xw0007_01.prog w) (Ar dp un fr gd) (call (.ref 553) [.ref a, .ref v]) Q E s := by
  obtain ⟨sdx, H1, H2⟩ := id H
  obtain ⟨kt, K1⟩ := K.kind
  refine' enterE [(Str.ofString "subtype", .ref a), (Str.ofString "value", .ref v)] X T.nolimit (by omega) ?ho ?hcd ?hb ?hl ?hc ?h1 ?h2 ?h3 ?_
  case ho => k_is
  case hcd => k_is
  case hb => exact BindsTo.of_eq rfl
  case hl => exact locs rfl
  case hc => decide
  case h1 => rfl
  case h2 => rfl
  case h3 => rfl
  intro L h₁ hL F N
  k_fold
  k_steps
  apply unhold
  refine full_sub_ok (X.keeps F.keep) (T.keeps F.keep) (by walk_at "my room") (H.stays F.keep) (K1.stays F.keep) (.inl rfl) fun h2 tk2 hk2 => ?_
  have F2 := Fr.keeps F hk2
  have N2 := News.grown N hk2
  clear F N
  k_steps
  apply unhold
  with_reducible rename Fr _ _ _ _ => F3
  with_reducible rename News _ _ _ _ => N3
  refine scalar_ok (X.keeps F3.keep) (T.keeps F3.keep) (by walk_at "my room") (K1.stays F3.keep) (.inl rfl) fun h4 tk4 hk4 => ?_
  have F4 := Fr.keeps F3 hk4
  have N4 := News.grown N3 hk4
  clear F3 N3
  k_steps
  apply unhold
  refine fitted_ok (X.keeps F4.keep) (T.keeps F4.keep) (push_below B F4 rfl (by simp)) (by walk_at "my room") (by walk_at "my room") (fun x q => let ⟨o, e⟩ := hz x q; ⟨o, F4.keep _ _ e⟩) (H.stays F4.keep) (C.stays F4.keep) (K.stays F4.keep) (I.stays F4.keep) hlen (V.stays F4.keep) (fun r hr h6 tk6 v6 S6 hk6 l6 hx6 nd6 => ?_) (fun hne h5 tk5 e5 t5 x5 => leave_passed B F4 x5 (hE hne) fun h' => ⟨_, rfl⟩)
  exact hQ r hr _ _ _ _ (stays_trans F4.keep hk6) l6 (fun x hx => stays_none F4.keep (hx6 x hx)) nd6
end
theorem lines_Fit2 : True := by
  k_with "isTrue UnaryOp" => (k_here; (refine isTrue_not ?_); k_dflt (refine isTrue_plain ?_; refine Call_ ?_))
  trivial
inductive Fr2 (base : Heap) (L : Addr) (x1 : Str) (v1 : Value) (x2 : Str) (v2 : Value) (h : Heap) : Prop
  | mk (m : Str → Option Value) (F : Fr base L h m) (m1 : m x1 = some v1) (m2 : m x2 = some v2) : Fr2 base L x1 v1 x2 v2 h
def inWord (b : Int × Int) : Prop := -32768 ≤ b.1 ∧ b.1 ≤ 32767 ∧ -32768 ≤ b.2 ∧ b.2 ≤ 32767
section
variable {w : World} {dp un : Nat} {fr : Option (List Env)} {gd : Option (List Code)} {E : Value → Shared → Prop} {s : Shared} {Q : Value → Shared → Prop} {mean : ExcName → Option Value} {mg mb : Str → Option Value} {base : Heap} {outer : List Env}
theorem in_bounds_ok (X : (hd.heap_39 w.params).In s.heap) (T : Top hd.view_39 (looseW hd.view_39 []) mean mg mb s.heap) (hdep : dp + 2 < recursionLimit) {i : Int} {t t1 t2 : Tok} (h1 : -32768 ≤ i) (h2 : i ≤ 32767)
    (hQ : ∀ h' tk, s.heap.StaysIn h' → Q (.bool true) { s with heap := h', toks := tk }) :
    wpAny (model PySem.Challenge.rw_xw0007_01.prog w) (Ar dp un fr gd) (call (.ref 436) [.int i t, .int (-32768) t1, .int 32767 t2]) Q E s := by
  refine' enter [(Str.ofString "value", .int i t), (Str.ofString "low", .int (-32768) t1), (Str.ofString "high", .int 32767 t2)] X T.nolimit (by omega) ?ho ?hcd ?hb ?hl ?hc ?h1 ?h2 ?h3 ?_
  case ho => k_is
  case hcd => k_is
  case hb => exact BindsTo.of_eq rfl
  case hl => exact locs rfl
  case hc => decide
  case h1 => rfl
  case h2 => rfl
  case h3 => rfl
  intro L h₁ hL F N
  k_fold
  k_steps
  all_goals try omega
  with_reducible rename Fr _ _ _ _ => F2
  show Q (.bool (decide (i ≤ 32767))) _
  rw [show decide (i ≤ 32767) = true from decide_eq_true h2]
  exact hQ _ _ F2.keep
theorem check_base_ok (X : (hd.heap_39 w.params).In s.heap) (T : Top hd.view_39 (looseW hd.view_39 []) mean mg mb s.heap) (hdep : dp + 4 < recursionLimit) {ty tdx : Addr} {i : Int} {t t1 t2 : Tok} (h1 : -32768 ≤ i) (h2 : i ≤ 32767) (K1 : Has s.heap ty tdx 229 (Str.ofString "low") (.int (-32768) t1)) (K2 : Has s.heap ty tdx 229 (Str.ofString "high") (.int 32767 t2))
    (hQ : ∀ h' tk, s.heap.StaysIn h' → Q (.int i t) { s with heap := h', toks := tk }) :
    wpAny (model PySem.Challenge.rw_xw0007_01.prog w) (Ar dp un fr gd) (call (.ref 457) [.ref ty, .int i t]) Q E s := by
  refine' enter [(Str.ofString "t", .ref ty), (Str.ofString "value", .int i t)] X T.nolimit (by omega) ?ho ?hcd ?hb ?hl ?hc ?h1 ?h2 ?h3 ?_
  case ho => k_is
  case hcd => k_is
  case hb => exact BindsTo.of_eq rfl
  case hl => exact locs rfl
  case hc => decide
  case h1 => rfl
  case h2 => rfl
  case h3 => rfl
  intro L h₁ hL F N
  k_fold
  k_steps
  apply unhold
  refine in_bounds_ok (X.keeps F.keep) (T.keeps F.keep) (by walk_at "my room") h1 h2 fun h2 tk2 hk2 => ?_
  have F2 := Fr.keeps F hk2
  have N2 := News.grown N hk2
  clear F N
  k_steps
  exact hQ _ _ F2.keep
theorem check_bases_ok (X : (hd.heap_39 w.params).In s.heap) (T : Top hd.view_39 (looseW hd.view_39 []) mean mg mb s.heap) (hdep : dp + 6 < recursionLimit) {v dx b ty tdx il whole wdx : Addr} {num wn : Int} {low high wi : Value} {isC wc : Bool} {bs rs : List (Int × Int)} {w1 w2 : Tok}
    (V : Has s.heap v dx 131 (Str.ofString "bounds") (.ref b)) (H3 : PairsAt s.heap b bs) (hb : bs.length ≤ 100) (K : TyH s.heap ty tdx (Str.ofString "array") num low high (.ref il) isC) (I : IdxAt s.heap il whole rs) (hlen : rs.length = bs.length)
    (W : TyH s.heap whole wdx (Str.ofString "int") wn (.int (-32768) w1) (.int 32767 w2) wi wc) (hw : ∀ c ∈ bs, inWord c)
    (hQ : ∀ h' tk, s.heap.StaysIn h' → Q .none { s with heap := h', toks := tk }) :
    wpAny (model PySem.Challenge.rw_xw0007_01.prog w) (Ar dp un fr gd) (call (.ref 574) [.ref ty, .ref v]) Q E s := by
  obtain ⟨bv, B1, B2⟩ := H3
  obtain ⟨rv, R1, R2⟩ := I
  have hI := K.index
  have R3 := R1.isList
  obtain ⟨wk, W1⟩ := W.kind
  have lb : bv.size = bs.length := by
    have := B2.length
    rwa [Array.length_toList] at this
  have lr : rv.size = rs.length := by
    have := R2.length
    rwa [Array.length_toList] at this
  refine' enter [(Str.ofString "t", .ref ty), (Str.ofString "value", .ref v)] X T.nolimit (by omega) ?ho ?hcd ?hb ?hl ?hc ?h1 ?h2 ?h3 ?_
  case ho => k_is
  case hcd => k_is
  case hb => exact BindsTo.of_eq rfl
  case hl => exact locs rfl
  case hc => decide
  case h1 => rfl
  case h2 => rfl
  case h3 => rfl
  intro L h₁ hL F N
  k_fold
  k_steps
  apply unhold
  refine for_range rfl ?h ?hs
  case hs => intro x; rfl
  k_steps
  apply unhold
  refine call_range_1 ?_
  apply unhold
  refine ⟨_, rv.size, _, _, _, rfl, IsRange.new .., by omega, fun hh K e hK => ?_⟩
  have FH := (F.push { cls := .type "range", data := .fields #[.int 0 (tk + 1 + 1 + 1), .int rv.size (tk + 1 + 1), .int 1 (tk + 1 + 1 + 1 + 1)] })
  rw [show h₁.push _ = hh from e] at FH
  have hK0 : s.heap.get? K = none := stays_none FH.keep (by rw [hK]; exact Heap.get?_none_of_le (Nat.le_refl _))
  have hKL : L ≠ K := fun q => by have := FH.ns.lt; rw [q, hK] at this; exact Nat.lt_irrefl _ this
  clear F N
  refine ⟨fun _ h => Fr2 s.heap L (Str.ofString "t") (.ref ty) (Str.ofString "value") (.ref v) h, ⟨_, FH, rfl, rfl⟩, ?_, ?_, ?_⟩
  · rintro i h h' ⟨m, F', m1, m2⟩ hk
    exact ⟨m, fr_at F' (fun b o hb q => hk b o q (.inr hb)) hKL hK0, m1, m2⟩
  · intro i t h3 tk3 oI hi hI3 hsoft HI
    k_fold
    obtain ⟨m, F3, hm1, hm2⟩ := HI
    obtain ⟨c, p, t1, t2, n1, hc, e1, o1⟩ := B2.get (i := i) (List.getElem?_eq_getElem (by rw [Array.length_toList, lb, ← hlen, ← lr]; exact hi))
    obtain ⟨q, a, cq, t3, t4, t5, n2, hq, e2, hsub, o2⟩ := R2.get (i := i) (List.getElem?_eq_getElem (by rw [Array.length_toList]; exact hi))
    have hv1 : bv[i]? = some (.ref p) := by rw [← Array.getElem?_toList, List.getElem?_eq_getElem (by rw [Array.length_toList, lb, ← hlen, ← lr]; exact hi), e1]
    have hv2 : rv[i]? = some (.ref a) := by rw [← Array.getElem?_toList, List.getElem?_eq_getElem (by rw [Array.length_toList]; exact hi), e2]
    have hT1 : IsTup s.heap p #[.int c.1 t1, .int c.2 t2] := ⟨_, o1, rfl, _, rfl⟩
    obtain ⟨w1, w2, w3, w4⟩ := hw c (List.mem_of_getElem? hc)
    obtain ⟨sdx, S1, S2⟩ := hsub
    obtain ⟨gl, NG, back⟩ := snapAll F3
    clear e1 e2
    k_steps
    with_reducible rename Fr _ _ _ _ => F4
    with_reducible rename News _ _ _ _ => N4
    apply unhold
    refine full_type_ok (X.keeps F4.keep) (T.keeps F4.keep) (by walk_at "my room") (W1.stays F4.keep) (.inr (.inr rfl)) fun h5 tk5 hk5 => ?_
    have F5 := Fr.keeps F4 hk5
    have N5 := News.grown N4 hk5
    clear F4 N4
    k_steps
    apply unhold
    refine check_base_ok (X.keeps F5.keep) (T.keeps F5.keep) (by walk_at "my room") w1 w2 (W.low.stays F5.keep) (W.high.stays F5.keep) fun h6 tk6 hk6 => ?_
    have F6 := Fr.keeps F5 hk6
    have N6 := News.grown N5 hk6
    clear F5 N5
    k_steps
    apply unhold
    refine full_type_ok (X.keeps F6.keep) (T.keeps F6.keep) (by walk_at "my room") (W1.stays F6.keep) (.inr (.inr rfl)) fun h7 tk7 hk7 => ?_
    have F7 := Fr.keeps F6 hk7
    have N7 := News.grown N6 hk7
    clear F6 N6
    k_steps
    apply unhold
    refine check_base_ok (X.keeps F7.keep) (T.keeps F7.keep) (by walk_at "my room") w3 w4 (W.low.stays F7.keep) (W.high.stays F7.keep) fun h8 tk8 hk8 => ?_
    have F8 := Fr.keeps F7 hk8
    have N8 := News.grown N7 hk8
    clear F7 N7
    k_steps
    apply unhold
    exact ⟨_, _, rfl, back _ _ F8 N8 K oI hI3 (Ne.symm hKL), _, F8, by simp +decide only [↓reduceIte]; exact hm1, by simp +decide only [↓reduceIte]; exact hm2⟩
  · rintro h' tk ⟨m, F3, _⟩
    have N3 : News s.heap L h' [] := News.nil
    clear FH
    k_steps
    exact hQ _ _ F3.keep
end
section
variable {w : World} {dp un : Nat} {fr : Option (List Env)} {gd : Option (List Code)} {E : Value → Shared → Prop} {s : Shared} {Q : Value → Shared → Prop} {mean : ExcName → Option Value} {mg mb : Str → Option Value} {base : Heap} {outer : List Env}
theorem conv_ok {n : Nat} {Z : Addr → Prop} {items : List D} {bs rs : List (Int × Int)} {S : List Addr} {v : Addr} (X : (hd.heap_39 w.params).In s.heap) (T : Top hd.view_39 (looseW hd.view_39 []) mean mg mb s.heap) (B : Below (Ar dp un fr gd) base outer s.heap) (hdep : dp + n + 20 < recursionLimit) (hu : un + 6 * n + 120 < cLine) (hz : (∀ x, Z x → ∃ o, s.heap.get? x = some o))
    {a ty tdx il whole : Addr} {num : Int} {low high : Value} {ty2 tdx2 wdx : Addr} {num2 wn : Int} {low2 high2 index2 wi : Value} {wc isC2 : Bool} {w1 w2 : Tok} (H : SubAt s.heap a ty .none) (K : TyH s.heap ty tdx (Str.ofString "array") num low high (.ref il) false) (I : IdxAt s.heap il whole rs) (hlen : rs.length = bs.length) (K2 : TyH s.heap ty2 tdx2 (Str.ofString "array") num2 low2 high2 index2 isC2) (W : TyH s.heap whole wdx (Str.ofString "int") wn (.int (-32768) w1) (.int 32767 w2) wi wc) (hw : ∀ c ∈ bs, inWord c)
    (V : Lies PySem.Challenge.rw_xw0007_01.prog w s.heap Z (n + 1) S (.ref v) (.arr bs items))
    (hQ : ∀ r, Due bs rs none r → ∀ h' tk v' S', s.heap.StaysIn h' → Lies PySem.Challenge.rw_xw0007_01.prog w h' Z (n + 1) S' v' (.arr r items) → (∀ x ∈ S', s.heap.get? x = none) → S'.Nodup → Q v' { s with heap := h', toks := tk })
    (hE : (∀ r, ¬ Due bs rs none r) → RaiseE s.heap outer s E) :
    wpAny (model PySem.Challenge.rw_xw0007_01.prog w) (Ar dp un fr gd) (call (.ref 581) [.ref a, .ref ty2, .ref v]) Q E s := by
  obtain ⟨sdx, H1, H2⟩ := id H
  obtain ⟨kt, K1⟩ := K.kind
  obtain ⟨kt2, K3⟩ := K2.kind
  obtain ⟨a', dx, b, l, vs, S', e1, e2, i1, i2, B3, pl, hit, hbs, hits⟩ := id V
  cases e1
  refine' enterE [(Str.ofString "subtype", .ref a), (Str.ofString "source", .ref ty2), (Str.ofString "value", .ref v)] X T.nolimit (by omega) ?ho ?hcd ?hb ?hl ?hc ?h1 ?h2 ?h3 ?_
  case ho => k_is
  case hcd => k_is
  case hb => exact BindsTo.of_eq rfl
  case hl => exact locs rfl
  case hc => decide
  case h1 => rfl
  case h2 => rfl
  case h3 => rfl
  intro L h₁ hL F1 N1
  k_steps
  apply unhold
  with_reducible rename Fr _ _ _ _ => F2
  with_reducible rename News _ _ _ _ => N2
  refine full_sub_ok (X.keeps F2.keep) (T.keeps F2.keep) (by walk_at "my room") (H.stays F2.keep) (K1.stays F2.keep) (.inl rfl) fun h3 tk3 hk3 => ?_
  have F3 := Fr.keeps F2 hk3
  have N3 := News.grown N2 hk3
  clear F2 N2
  k_steps
  apply unhold
  with_reducible rename Fr _ _ _ _ => F4
  with_reducible rename News _ _ _ _ => N4
  refine full_type_ok (X.keeps F4.keep) (T.keeps F4.keep) (by walk_at "my room") (K3.stays F4.keep) (.inl rfl) fun h5 tk5 hk5 => ?_
  have F5 := Fr.keeps F4 hk5
  have N5 := News.grown N4 hk5
  clear F4 N4
  k_steps
  apply unhold
  with_reducible rename Fr _ _ _ _ => F6
  with_reducible rename News _ _ _ _ => N6
  refine numeric_ok (X.keeps F6.keep) (T.keeps F6.keep) (by walk_at "my room") (K1.stays F6.keep) fun h7 tk7 hk7 => ?_
  have F7 := Fr.keeps F6 hk7
  have N7 := News.grown N6 hk7
  clear F6 N6
  k_steps
  apply unhold
  with_reducible rename Fr _ _ _ _ => F8
  with_reducible rename News _ _ _ _ => N8
  refine fixed_free (X.keeps F8.keep) (T.keeps F8.keep) (by walk_at "my room") (H.stays F8.keep) (K.stays F8.keep) fun h9 tk9 hk9 => ?_
  have F9 := Fr.keeps F8 hk9
  have N9 := News.grown N8 hk9
  clear F8 N8
  k_steps
  apply unhold
  with_reducible rename Fr _ _ _ _ => F10
  with_reducible rename News _ _ _ _ => N10
  refine check_bases_ok (X.keeps F10.keep) (T.keeps F10.keep) (by walk_at "my room") (i1.stays F10.keep) (PairsAt.stays B3 F10.keep) hbs (K.stays F10.keep) (I.stays F10.keep) hlen (W.stays F10.keep) hw fun h11 tk11 hk11 => ?_
  have F11 := Fr.keeps F10 hk11
  have N11 := News.grown N10 hk11
  clear F10 N10
  k_steps
  apply unhold
  refine fit_ok (asked := none) (X.keeps F11.keep) (T.keeps F11.keep) (push_below B F11 rfl (by simp)) (by walk_at "my room") (by walk_at "my room") (fun x q => let ⟨o, e⟩ := hz x q; ⟨o, F11.keep _ _ e⟩) (H.stays F11.keep) rfl (K.stays F11.keep) (I.stays F11.keep) hlen (V.stays F11.keep) (fun r hr h6 tk6 v6 S6 hk6 l6 hx6 nd6 => ?_) (fun hne h5 tk5 e5 t5 x5 => leave_passed B F11 x5 (hE hne) fun h' => ⟨_, rfl⟩)
  exact hQ r hr _ _ _ _ (stays_trans F11.keep hk6) l6 (fun x hx => stays_none F11.keep (hx6 x hx)) nd6
end
section
variable {prog : Program} {w : World} {A : Around} {E : Value → Shared → Prop} {s : Shared} {K : Frag} {a dx C : Addr} {name : Str} {v : Value}
/-- an attribute, by what stands in the heap as it is -/
theorem get_hasC {expr : Bool} {Q : Value → Shared → Prop} {attr : Option Value} (X : K.In s.heap) (H : Has s.heap a dx C name v) (hg : plainGet K C name = true) (hh : hasDictIn K C = true)
    (ha : findIn K (.ref C) name = some attr) (hn : noGet K attr = true) (hv : handedIn v = true) (h : Q v { s with toks := s.toks + 1 }) :
    wpAny (model prog w) A (getAttr (.ref a) name expr) Q E s := by
  obtain ⟨e, n, a1, a2, a3⟩ := H
  exact get_value (od := W.dictOf e n) X ⟨a1, rfl, rfl, a2⟩ (plainGet_of hg).1 (findObj_own hh ha hn a3) hv h
end
section
variable {w : World} {dp un : Nat} {fr : Option (List Env)} {gd : Option (List Code)} {E : Value → Shared → Prop} {s : Shared} {Q : Value → Shared → Prop} {mean : ExcName → Option Value} {mg mb : Str → Option Value} {base : Heap} {outer : List Env}
theorem own_part_ok (X : (hd.heap_39 w.params).In s.heap) (T : Top hd.view_39 (looseW hd.view_39 []) mean mg mb s.heap) (hdep : dp + 2 < recursionLimit) {ty tdx : Addr} {num : Int} {low high index : Value} {isC : Bool} {v : Value} (K : TyH s.heap ty tdx (Str.ofString "record") num low high index isC)
    (hQ : ∀ h' tk, s.heap.StaysIn h' → Q v { s with heap := h', toks := tk }) :
    wpAny (model PySem.Challenge.rw_xw0007_01.prog w) (Ar dp un fr gd) (call (.ref 415) [.ref ty, v]) Q E s := by
  obtain ⟨kt, K1⟩ := K.kind
  have K2 := K.tagged
  refine' enter [(Str.ofString "t", .ref ty), (Str.ofString "value", v)] X T.nolimit (by omega) ?ho ?hcd ?hb ?hl ?hc ?h1 ?h2 ?h3 ?_
  case ho => k_is
  case hcd => k_is
  case hb => exact BindsTo.of_eq rfl
  case hl => exact locs rfl
  case hc => decide
  case h1 => rfl
  case h2 => rfl
  case h3 => rfl
  intro L h₁ hL F N
  k_fold
  k_steps
  all_goals with_reducible rename Fr _ _ _ _ => F2
  all_goals exact hQ _ _ F2.keep
theorem same_type_ok (X : (hd.heap_39 w.params).In s.heap) (T : Top hd.view_39 (looseW hd.view_39 []) mean mg mb s.heap) (hdep : dp + 2 < recursionLimit) {a adx b bdx : Addr} {num : Int} {t1 t2 : Tok} (H1 : Has s.heap a adx 229 (Str.ofString "number") (.int num t1)) (H2 : Has s.heap b bdx 229 (Str.ofString "number") (.int num t2))
    (hQ : ∀ h' tk, s.heap.StaysIn h' → Q (.bool true) { s with heap := h', toks := tk }) :
    wpAny (model PySem.Challenge.rw_xw0007_01.prog w) (Ar dp un fr gd) (call (.ref 303) [.ref a, .ref b]) Q E s := by
  refine' enter [(Str.ofString "a", .ref a), (Str.ofString "b", .ref b)] X T.nolimit (by omega) ?ho ?hcd ?hb ?hl ?hc ?h1 ?h2 ?h3 ?_
  case ho => k_is
  case hcd => k_is
  case hb => exact BindsTo.of_eq rfl
  case hl => exact locs rfl
  case hc => decide
  case h1 => rfl
  case h2 => rfl
  case h3 => rfl
  intro L h₁ hL F N
  k_fold
  k_steps
  with_reducible rename Fr _ _ _ _ => F2
  show Q (.bool (decide (num = num))) _
  rw [show decide (num = num) = true from decide_eq_true rfl]
  exact hQ _ _ F2.keep
theorem record_fitted_ok {n : Nat} {Z : Addr → Prop} {num : Int} {fs : List (Str × D)} {S : List Addr} {v : Value} (X : (hd.heap_39 w.params).In s.heap) (T : Top hd.view_39 (looseW hd.view_39 []) mean mg mb s.heap) (hdep : dp + n + 8 < recursionLimit) (hu : un + 6 * n + 60 < cLine) (hz : (∀ x, Z x → ∃ o, s.heap.get? x = some o))
    {a ty tdx : Addr} {low high index : Value} {isC : Bool} (H : SubAt s.heap a ty .none) (K : TyH s.heap ty tdx (Str.ofString "record") num low high index isC)
    (V : Lies PySem.Challenge.rw_xw0007_01.prog w s.heap Z (n + 1) S v (.recd num fs))
    (hQ : ∀ h' tk v' S', s.heap.StaysIn h' → Lies PySem.Challenge.rw_xw0007_01.prog w h' Z (n + 1) S' v' (.recd num fs) → (∀ x ∈ S', s.heap.get? x = none) → S'.Nodup → Q v' { s with heap := h', toks := tk }) :
    wpAny (model PySem.Challenge.rw_xw0007_01.prog w) (Ar dp un fr gd) (call (.ref 546) [.ref a, v]) Q E s := by
  obtain ⟨sdx, H1, H2⟩ := id H
  obtain ⟨nt, KN⟩ := K.number
  have KT := K.tagged
  refine' enter [(Str.ofString "subtype", .ref a), (Str.ofString "value", v)] X T.nolimit (by omega) ?ho ?hcd ?hb ?hl ?hc ?h1 ?h2 ?h3 ?_
  case ho => k_is
  case hcd => k_is
  case hb => exact BindsTo.of_eq rfl
  case hl => exact locs rfl
  case hc => decide
  case h1 => rfl
  case h2 => rfl
  case h3 => rfl
  intro L h₁ hL F N
  k_fold
  k_steps
  apply unhold
  refine own_part_ok (X.keeps F.keep) (T.keeps F.keep) (by walk_at "my room") (K.stays F.keep) fun h2 tk2 hk2 => ?_
  have F2 := Fr.keeps F hk2
  have N2 := News.grown N hk2
  clear F N
  k_steps
  apply unhold
  refine copy_ok (n + 1) (X.keeps F2.keep) (T.keeps F2.keep) (by walk_at "my room") (by walk_at "my room") (fun x q => let ⟨o, e⟩ := hz x q; ⟨o, F2.keep _ _ e⟩) (V.stays F2.keep) fun h3 tk3 v3 S3 hk3 l3 hx3 nd3 => ?_
  have F3 := Fr.keeps F2 hk3
  have hNL := F2.ns
  have N3 := News.grown N2 hk3
  have hx3' : ∀ x ∈ S3, s.heap.get? x = none := fun x hx => stays_none F2.keep (hx3 x hx)
  clear F2 N2
  obtain ⟨a3, dx3, fd3, ty3, tdx3, tk4, kvs3, S4, e1, e2, i1, i2, i3, hl3, r3⟩ := id l3
  subst e1
  obtain ⟨gl, NG, back⟩ := snapAll F3
  have hL0 : s.heap.get? L = none := Heap.get?_none_of_le F3.above
  have hL3 : ∀ b o, h3.get? b = some o → (b ∈ S3 ∨ Z b ∨ Soft o) → b ≠ L := by
    rintro b o e hb rfl
    rcases hb with hb | hb | hb
    · obtain ⟨o', _, _, ho, _⟩ := hNL
      exact fresh_ne ho (hx3 _ hb) rfl
    · obtain ⟨o', q⟩ := hz _ hb
      rw [hL0] at q; cases q
    · exact not_soft_ns F3.ns e hb
  have hdx : dx3 ∈ S3 := by rw [e2]; exact .head _
  have hC : ∀ {h' : Heap} {m' : Str → Option Value}, Fr s.heap L h' m' → News s.heap L h' gl → Has h' a3 dx3 152 (Str.ofString "type") (.ref ty3) ∧ Has h' ty3 tdx3 229 (Str.ofString "number") (.int num tk4) ∧ Lies PySem.Challenge.rw_xw0007_01.prog w h' Z (n + 1) S3 (.ref a3) (.recd num fs) := fun F' N' =>
    ⟨i1.keep (fun o e sf => back _ _ F' N' _ o e (hL3 _ _ e (.inr (.inr sf)))) (fun o e => back _ _ F' N' _ o e (hL3 _ _ e (.inl hdx))),
      i3.keep (fun o e sf => back _ _ F' N' _ o e (hL3 _ _ e (.inr (.inr sf)))) (fun o e => back _ _ F' N' _ o e (hL3 _ _ e (.inr (.inl hl3)))),
      l3.move (fun _ q => q) fun b o e hb => back _ _ F' N' b o e (hL3 b o e hb)⟩
  clear N3
  k_steps
  with_reducible rename Fr _ _ _ _ => F4
  with_reducible rename News _ _ _ _ => N4
  have C4 := hC F4 N4
  refine' get_hasC ?X C4.1 ?g ?h ?a ?n ?v ?_
  case X => exact X.keeps F4.keep
  case g => k_is
  case h => k_is
  case a => k_is
  case n => k_is
  case v => rfl
  k_steps
  apply unhold
  refine same_type_ok (X.keeps F4.keep) (T.keeps F4.keep) (by walk_at "my room") C4.2.1 (KN.stays F4.keep) fun h5 tk5 hk5 => ?_
  have F5 := Fr.keeps F4 hk5
  have N5 := News.grown N4 hk5
  clear F4 N4
  k_steps
  exact hQ _ _ _ _ F5.keep (hC F5 N5).2.2 hx3' nd3
end
section
variable {w : World} {dp un : Nat} {fr : Option (List Env)} {gd : Option (List Code)} {E : Value → Shared → Prop} {s : Shared} {Q : Value → Shared → Prop} {mean : ExcName → Option Value} {mg mb : Str → Option Value} {base : Heap} {outer : List Env}
theorem fit_rec_ok {n : Nat} {Z : Addr → Prop} {num : Int} {fs : List (Str × D)} {S : List Addr} {v : Value} (X : (hd.heap_39 w.params).In s.heap) (T : Top hd.view_39 (looseW hd.view_39 []) mean mg mb s.heap) (hdep : dp + n + 10 < recursionLimit) (hu : un + 6 * n + 70 < cLine) (hz : (∀ x, Z x → ∃ o, s.heap.get? x = some o))
    {a ty tdx : Addr} {low high index : Value} {isC : Bool} (H : SubAt s.heap a ty .none) (K : TyH s.heap ty tdx (Str.ofString "record") num low high index isC)
    (V : Lies PySem.Challenge.rw_xw0007_01.prog w s.heap Z (n + 1) S v (.recd num fs))
    (hQ : ∀ h' tk v' S', s.heap.StaysIn h' → Lies PySem.Challenge.rw_xw0007_01.prog w h' Z (n + 1) S' v' (.recd num fs) → (∀ x ∈ S', s.heap.get? x = none) → S'.Nodup → Q v' { s with heap := h', toks := tk }) :
    wpAny (model PySem.Challenge.rw_xw0007_01.prog w) (Ar dp un fr gd) (call (.ref 553) [.ref a, v]) Q E s := by
  obtain ⟨sdx, H1, H2⟩ := id H
  obtain ⟨kt, K1⟩ := K.kind
  refine' enter [(Str.ofString "subtype", .ref a), (Str.ofString "value", v)] X T.nolimit (by omega) ?ho ?hcd ?hb ?hl ?hc ?h1 ?h2 ?h3 ?_
  case ho => k_is
  case hcd => k_is
  case hb => exact BindsTo.of_eq rfl
  case hl => exact locs rfl
  case hc => decide
  case h1 => rfl
  case h2 => rfl
  case h3 => rfl
  intro L h₁ hL F1 N1
  k_steps
  apply unhold
  with_reducible rename Fr _ _ _ _ => F2
  with_reducible rename News _ _ _ _ => N2
  refine full_sub_ok (X.keeps F2.keep) (T.keeps F2.keep) (by walk_at "my room") (H.stays F2.keep) (K1.stays F2.keep) (.inr (.inl rfl)) fun h3 tk3 hk3 => ?_
  have F3 := Fr.keeps F2 hk3
  have N3 := News.grown N2 hk3
  clear F2 N2
  k_steps
  apply unhold
  with_reducible rename Fr _ _ _ _ => F4
  with_reducible rename News _ _ _ _ => N4
  refine scalar_ok (X.keeps F4.keep) (T.keeps F4.keep) (by walk_at "my room") (K1.stays F4.keep) (.inr rfl) fun h5 tk5 hk5 => ?_
  have F5 := Fr.keeps F4 hk5
  have N5 := News.grown N4 hk5
  clear F4 N4
  k_steps
  apply unhold
  refine record_fitted_ok (X.keeps F5.keep) (T.keeps F5.keep) (by walk_at "my room") (by walk_at "my room") (fun x q => let ⟨o, e⟩ := hz x q; ⟨o, F5.keep _ _ e⟩) (H.stays F5.keep) (K.stays F5.keep) (V.stays F5.keep) fun h6 tk6 v6 S6 hk6 l6 hx6 nd6 => ?_
  exact hQ _ _ _ _ (stays_trans F5.keep hk6) l6 (fun x hx => stays_none F5.keep (hx6 x hx)) nd6
theorem asks_ok (X : (hd.heap_39 w.params).In s.heap) (T : Top hd.view_39 (looseW hd.view_39 []) mean mg mb s.heap) (hdep : dp + 2 < recursionLimit) {ty tdx : Addr} {t : Tok} (K : Has s.heap ty tdx 229 (Str.ofString "kind") (.str (Str.ofString "array") t))
    (hQ : ∀ h' tk, s.heap.StaysIn h' → Q (.bool false) { s with heap := h', toks := tk }) :
    wpAny (model PySem.Challenge.rw_xw0007_01.prog w) (Ar dp un fr gd) (call (.ref 506) [.ref ty]) Q E s := by
  refine' enter [(Str.ofString "t", .ref ty)] X T.nolimit (by omega) ?ho ?hcd ?hb ?hl ?hc ?h1 ?h2 ?h3 ?_
  case ho => k_is
  case hcd => k_is
  case hb => exact BindsTo.of_eq rfl
  case hl => exact locs rfl
  case hc => decide
  case h1 => rfl
  case h2 => rfl
  case h3 => rfl
  intro L h₁ hL F N
  k_fold
  k_steps
  with_reducible rename Fr _ _ _ _ => F2
  exact hQ _ _ F2.keep
/-- qual_value of a free array subtype gives the value itself -/
theorem qual_ok (X : (hd.heap_39 w.params).In s.heap) (T : Top hd.view_39 (looseW hd.view_39 []) mean mg mb s.heap) (hdep : dp + 4 < recursionLimit) {a ty tdx : Addr} {num : Int} {low high index : Value} {isC : Bool} {v : Value} (H : SubAt s.heap a ty .none) (K : TyH s.heap ty tdx (Str.ofString "array") num low high index isC)
    (hQ : ∀ h' tk, s.heap.StaysIn h' → Q v { s with heap := h', toks := tk }) :
    wpAny (model PySem.Challenge.rw_xw0007_01.prog w) (Ar dp un fr gd) (call (.ref 520) [.ref a, v]) Q E s := by
  obtain ⟨sdx, H1, H2⟩ := id H
  obtain ⟨kt, K1⟩ := K.kind
  refine' enter [(Str.ofString "subtype", .ref a), (Str.ofString "value", v)] X T.nolimit (by omega) ?ho ?hcd ?hb ?hl ?hc ?h1 ?h2 ?h3 ?_
  case ho => k_is
  case hcd => k_is
  case hb => exact BindsTo.of_eq rfl
  case hl => exact locs rfl
  case hc => decide
  case h1 => rfl
  case h2 => rfl
  case h3 => rfl
  intro L h₁ hL F1 N1
  k_steps
  apply unhold
  with_reducible rename Fr _ _ _ _ => F2
  with_reducible rename News _ _ _ _ => N2
  refine full_sub_ok (X.keeps F2.keep) (T.keeps F2.keep) (by walk_at "my room") (H.stays F2.keep) (K1.stays F2.keep) (.inl rfl) fun h3 tk3 hk3 => ?_
  have F3 := Fr.keeps F2 hk3
  have N3 := News.grown N2 hk3
  clear F2 N2
  k_steps
  apply unhold
  with_reducible rename Fr _ _ _ _ => F4
  with_reducible rename News _ _ _ _ => N4
  refine scalar_ok (X.keeps F4.keep) (T.keeps F4.keep) (by walk_at "my room") (K1.stays F4.keep) (.inl rfl) fun h5 tk5 hk5 => ?_
  have F5 := Fr.keeps F4 hk5
  have N5 := News.grown N4 hk5
  clear F4 N4
  k_steps
  apply unhold
  with_reducible rename Fr _ _ _ _ => F6
  with_reducible rename News _ _ _ _ => N6
  refine asks_ok (X.keeps F6.keep) (T.keeps F6.keep) (by walk_at "my room") (K1.stays F6.keep) fun h7 tk7 hk7 => ?_
  have F7 := Fr.keeps F6 hk7
  have N7 := News.grown N6 hk7
  clear F6 N6
  k_steps
  exact hQ _ _ F7.keep
end
section
variable {w : World} {A : Around} {E : Value → Shared → Prop} {s : Shared} {env : Env}
/-- except AdaRaise as n: its own class is raised -/
theorem catch_ada {e : Addr} {t : Expr} {n : Str} {b₀ : Stmt} {suite : List Stmt} {pos : Pos} {rest : List ExceptHandler} {Q : Flow → Shared → Prop}
    (h : wpAny (model PySem.Challenge.rw_xw0007_01.prog w) (A.mark (some (.ref e))) (eval t env) (fun c s₁ => Hold (c = .ref 70 ∧ (hd.heap_39 w.params).In s₁.heap ∧ (∃ oe, s₁.heap.get? e = some oe ∧ oe.cls = .ref 70) ∧
      wpAny (model PySem.Challenge.rw_xw0007_01.prog w) (A.mark (some (.ref e))) (setFlight (.ref e) none) (fun _ s₂ =>
          wpAny (model PySem.Challenge.rw_xw0007_01.prog w) (A.mark (some (.ref e))) (storeName env n (.ref e)) (fun _ s₃ =>
            wpAny (model PySem.Challenge.rw_xw0007_01.prog w) (A.mark (some (.ref e))) (execs (b₀ :: suite) env)
              (fun f s₄ => wpAny (model PySem.Challenge.rw_xw0007_01.prog w) A (do bindName env n .none; unbindBehindTheSuite env n pos) (fun _ s₅ => Q f s₅) E s₄)
              (AsSuiteRaised (model PySem.Challenge.rw_xw0007_01.prog w) (A.mark (some (.ref e))) env n pos (notedBy (model PySem.Challenge.rw_xw0007_01.prog w) (A.mark (some (.ref e))) env (cameBackBy (model PySem.Challenge.rw_xw0007_01.prog w) A env E))) s₃) (notedBy (model PySem.Challenge.rw_xw0007_01.prog w) (A.mark (some (.ref e))) env (cameBackBy (model PySem.Challenge.rw_xw0007_01.prog w) A env E)) s₂) (notedBy (model PySem.Challenge.rw_xw0007_01.prog w) (A.mark (some (.ref e))) env (cameBackBy (model PySem.Challenge.rw_xw0007_01.prog w) A env E)) s₁)) (notedBy (model PySem.Challenge.rw_xw0007_01.prog w) (A.mark (some (.ref e))) env (cameBackBy (model PySem.Challenge.rw_xw0007_01.prog w) A env E)) s) :
    wpAny (model PySem.Challenge.rw_xw0007_01.prog w) A (handleBy (.ref e) env (.ExceptHandler (some t) (some n) (b₀ :: suite) pos :: rest)) Q E s := by
  refine wpAny_handleBy_cons (codeAny_handlers_test (wpAny_mono h (fun c s₁ h₁ => ?_) fun _ _ y => y)) (by intro q; cases q)
  obtain ⟨rfl, X, ⟨oe, he, hcls⟩, hk⟩ := h₁
  obtain ⟨nm, q, N, bs, bm, hdct, sn, sub, ab, col, dd, k0, k1, k2, k3, k5, hK, _, _, _, hbm⟩ := cls70 (w := w)
  obtain ⟨hh, g, d, tk, os⟩ := s₁
  exact wpAny_excMatches_sub_self (X _ _ hK) he hcls hbm (codeAny_handlers_suite_as hk)
end
section
variable {M : Model} {A : Around} {E : Value → Shared → Prop} {s : Shared} {base h₀ h : Heap} {env : Env} {outer : List Env} {L e : Addr} {m : Str → Option Value} {v : Value}
theorem look_land {G : Shared → Prop} (B : Below A base outer h₀) (F : Fr h₀ L h m) (hx : Fly h (frs (env :: outer)) e v .none s.heap) (k : ∀ h', Fly h (frs (env :: outer)) e v .none h' → G { s with heap := h' })
    (hf : env.frame = some L := by rfl) (hm : env.scope.kind = .function := by rfl) :
    wpAny M (A.deeper env) (noteFrame (.ref e) env) (fun _ s₂ => wpAny M (A.deeper env) (setFlight (.ref e) none) (fun _ s₃ => G s₃) E s₂) E s := by
  have B' := push_below B F hf (by rw [hm]; decide)
  exact fly_look B'.stack (hx.up.funFrames B'.frames) hf hx fun h' x => fly_lands x fun h'' x' _ => k _ x'
/-- what stands after a catch: all but the frames below -/
theorem caught_base (B : Below A base outer h₀) (F : Fr h₀ L h m) {fl : Value} {h' : Heap} (x : Fly h (frs (env :: outer)) e v fl h') (hf : env.frame = some L) :
    base.StaysIn (hideAll h₀ (frs outer)) ∧ Fr (hideAll h₀ (frs outer)) L h' m := by
  have hb : (hideAll h₀ (frs outer)).StaysIn h' := fun b o q => by
    have q0 := of_hideAll _ q
    have hbL : b ≠ L := fun z => absurd (Nat.lt_of_lt_of_le (Heap.lt_size (z ▸ q0)) F.above) (Nat.lt_irrefl _)
    refine (x.up b o (F.keep _ _ q0)).1 fun hm => ?_
    unfold frs at hm
    rw [List.filterMap_cons, hf] at hm
    rcases List.mem_cons.mp hm with z | z
    · exact hbL z
    · have := hideAll_none _ (h := h₀) z
      rw [show List.filterMap (fun x => x.frame) outer = frs outer from rfl] at this
      rw [this] at q; cases q
  refine ⟨fun b o q => hideAll_get _ (B.stays _ _ q) fun hm => ?_, x.up.ns F.ns, hb, by rw [hideAll_size]; exact F.above⟩
  rw [(B.frames.mem hm).1] at q; cases q
end
theorem ns_lacks {h : Heap} {a : Addr} {m : Str → Option Value} {name : Str} {od : Obj} {v : Value} (x : h.Ns a m) (e : m name = none) (o : h.get? a = some od) (l : lookIn name od = some (some v)) : False := by
  obtain ⟨o', es, ep, ho, hd, _, f⟩ := x
  rw [o] at ho; cases ho
  have := f name
  rw [e] at this
  unfold nsFind findBy at this
  unfold lookIn at l
  rw [hd] at l
  dsimp only at l
  rw [Array.find?_toList] at l
  cases q : Array.find? (fun x => x.key.isStr name) es with
  | none => rw [q] at l; dsimp only at l; split at l <;> simp at l
  | some en => rw [show Array.find? (fun e => (fun n v => v.isStr n) name e.key) es = some en from q] at this; cases this
section
open Builtin Builtin.ObjectAttr
variable {prog : Program} {w : World} {A : Around} {E : Value → Shared → Prop} {s : Shared}
/-- an attribute of an AdaRaise -/
theorem get_word {K : Frag} {e dx : Addr} {sl : Array (Option Value)} {vs : Array Value} {od : Obj} {v : Value} {expr : Bool} {Q : Value → Shared → Prop} {attr : Option Value} (X : K.In s.heap) (o : s.heap.get? e = some ⟨.ref 70, some dx, .fields vs, sl⟩) (q : s.heap.get? dx = some od) (lk : lookIn (Str.ofString "word") od = some (some v))
    (hg : findIn K (.ref 70) "__getattribute__" = some (some (.builtin "BaseException.__getattribute__"))) (hga : findIn K (.ref 70) "__getattr__" = some none) (hb : mroIn K 70 (.type "BaseException") = some true)
    (hh : hasDictIn K 70 = true) (ha : findIn K (.ref 70) (Str.ofString "word") = some attr) (hn : noGet K attr = true) (hv : handedIn v = true) (h : Q v { s with toks := s.toks + 1 }) :
    wpAny (model prog w) A (getAttr (.ref e) (Str.ofString "word") expr) Q E s := by
  have I : InstAt s.heap e ⟨.ref 70, some dx, .fields vs, sl⟩ 70 (some od) := ⟨o, rfl, rfl, q⟩
  obtain ⟨hp, g, d, t, os⟩ := s
  have L0 := I.type (M := model prog w)
  have L1 := looks_findIn (M := model prog w) X hg
  have L2 := looks_findIn (M := model prog w) X hga
  have L3 := looks_find (M := model prog w) X I (findObj_own hh ha hn lk)
  have L4 : Looks (model prog w) hp (isInstance (.ref e) (.type "BaseException")) true := I.type.andThen (looks_mroIn X hb)
  have hho := handedOut_of hv
  have FB := PySem.F.attrBase_Exception
  have f3 := FB.ga.bind (.ref e)
  have hx0 : (expr && onTheHeap (Value.builtin "BaseException.__getattribute__")) = false := by cases expr <;> rfl
  have hx2 : (Value.builtin "BaseException.__getattribute__" == Value.builtin "object.__getattribute__") = false := by decide +kernel
  have hx1 : (onTheHeap (Value.ref 70) && Value.builtin "BaseException.__getattribute__" == Value.builtin "object.__getattribute__") = false := by rw [hx2]; rfl
  dsimp only at L0 L1 L2 L3 L4
  unfold getAttr getAttrBy
  refine wpAny_bind (wpAny_mkText (wpAny_holding (wpAny_bind (L0.at (wpAny_bind (L1.at ?_))))))
  dsimp only
  rw [hx1]
  unfold getAttrByItsOwn
  repeat (any_goals (first | assumption | with_reducible refine L0.at ?_ | with_reducible refine L1.at ?_ | with_reducible refine L2.at ?_ | wp_step))
  have hk : builtinKind "BaseException.__getattribute__" = some .slot := by decide +kernel
  have hsplit : splitId "BaseException.__getattribute__" = some ("BaseException", "__getattribute__") := by decide +kernel
  refine codeAny_call_builtin FB.ga.plain PySem.F.entry_bexc_ga (@check_slot (model prog w) _ _ ⟨hp, g, d, t + 1, os⟩ "BaseException.__getattribute__" "BaseException" "__getattribute__" (.ref e) [.str (Str.ofString "word") t] [] _ hk hsplit L4 (PySem.F.args_bexc_ga (.ref e) (.str (Str.ofString "word") t)) ?_)
  unfold Builtin.«object.__getattribute__»
  refine wpAny_bind (wpAny_pure (wpAny_bind (wpAny_pure (wpAny_bind (L0.at (wpAny_bind (L3.at ?_)))))))
  refine wpAny_pure ?_
  show wpAny _ _ (handedOut v) _ _ _
  rw [hho]; exact wpAny_pure h
end
theorem lines_Catch0 : True := by
  k_with "exec Try" => (k_here; refine wpAny_Try_except ?_)
  trivial
section
variable {w : World} {dp un : Nat} {fr : Option (List Env)} {gd : Option (List Code)} {E : Value → Shared → Prop} {s : Shared} {Q : Value → Shared → Prop} {mean : ExcName → Option Value} {mg mb : Str → Option Value} {base : Heap} {outer : List Env}
theorem law_fitted_ok {n : Nat} {Z : Addr → Prop} {items : List D} {bs rs : List (Int × Int)} {asked : Option (List (Int × Int))} {S : List Addr} {v : Addr} (X₀ : (hd.heap_39 w.params).In base) (T₀ : Top hd.view_39 (looseW hd.view_39 []) mean mg mb base) (B : Below (Ar dp un fr gd) base outer s.heap) (hdep : dp + n + 20 < recursionLimit) (hu : un + 6 * n + 120 < cLine) (hz : (∀ x, Z x → ∃ o, s.heap.get? x = some o))
    {a ty tdx il whole : Addr} {num : Int} {low high con : Value} (H : SubAt s.heap a ty con) (C : ConAt s.heap asked con) (K : TyH s.heap ty tdx (Str.ofString "array") num low high (.ref il) false) (I : IdxAt s.heap il whole rs) (hlen : rs.length = bs.length)
    (V : Lies PySem.Challenge.rw_xw0007_01.prog w s.heap Z (n + 1) S (.ref v) (.arr bs items))
    (hQ : ∀ r, Due bs rs asked r → ∀ h' tk v' S', s.heap.StaysIn h' → Lies PySem.Challenge.rw_xw0007_01.prog w h' Z (n + 1) S' v' (.arr r items) → (∀ x ∈ S', s.heap.get? x = none) → S'.Nodup → Q v' { s with heap := h', toks := tk })
    (hE : (∀ r, ¬ Due bs rs asked r) → ∀ h' tk t, Up (frs outer) s.heap h' → Q (.str (Str.ofString "constraint_error") t) { s with heap := h', toks := tk }) :
    wpAny (model PySem.Challenge.rw_xw0007_01.prog w) (Ar dp un fr gd) (call (.ref 685) [.ref a, .ref v]) Q E s := by
  have X := X₀.keeps B.stays
  have T := T₀.keeps B.stays
  refine' enterE [(Str.ofString "subtype", .ref a), (Str.ofString "value", .ref v)] X T.nolimit (by omega) ?ho ?hcd ?hb ?hl ?hc ?h1 ?h2 ?h3 ?_
  case ho => k_is
  case hcd => k_is
  case hb => exact BindsTo.of_eq rfl
  case hl => exact locs rfl
  case hc => decide
  case h1 => rfl
  case h2 => rfl
  case h3 => rfl
  intro L h₁ hL F N
  k_fold
  k_steps
  apply unhold
  refine fit_ok (X.keeps F.keep) (T.keeps F.keep) (push_below B F rfl (by simp)) (by walk_at "my room") (by walk_at "my room") (fun x q => let ⟨o, e⟩ := hz x q; ⟨o, F.keep _ _ e⟩) (H.stays F.keep) (C.stays F.keep) (K.stays F.keep) (I.stays F.keep) hlen (V.stays F.keep) (fun r hr h6 tk6 v6 S6 hk6 l6 hx6 nd6 => ?_) (fun hne h5 tk5 e5 t5 x5 => ?_)
  · have F6 := Fr.keeps F hk6
    have N6 := News.grown N hk6
    have hx7 : ∀ x ∈ S6, s.heap.get? x = none := fun x hx => stays_none F.keep (hx6 x hx)
    clear F N
    k_steps
    exact hQ r hr _ _ _ _ F6.keep l6 hx7 nd6
  · refine look_land B F x5 fun h7 x7 => ?_
    obtain ⟨kb, F7⟩ := caught_base B F x7 rfl
    have X7 := X₀.keeps kb
    have T7' := T₀.keeps kb
    have N7 : News (hideAll s.heap (frs outer)) L h7 [] := News.nil
    obtain ⟨_, _, _, _, ⟨dx6, sl6, od6, o6, _⟩, _⟩ := x7.exc
    have F0 := F
    clear X T X₀ T₀ F N
    refine catch_ada ?_
    k_steps
    apply unhold
    refine ⟨rfl, X7.keeps F7.keep, ⟨_, o6, rfl⟩, ?_⟩
    refine fly_lands x7 fun h8 x8 _ => ?_
    obtain ⟨_, F8⟩ := caught_base B F0 x8 rfl
    have hup : Up (frs outer) s.heap h8 := (Fly.out F0 rfl x8).up
    obtain ⟨vs8, _, _, _, ⟨dx8, sl8, od8, o8, q8, lk8⟩, _⟩ := x8.exc
    have he8 : e5 ≠ L := fun z => by
      obtain ⟨o, _, _, ho, hd, _⟩ := F8.ns
      rw [← z, o8] at ho; cases ho; cases hd
    have hd8 : dx8 ≠ L := fun z => ns_lacks F8.ns (by rfl) (z ▸ q8) lk8
    obtain ⟨gl, NG, back⟩ := snapAll F8
    have hL0 : s.heap.get? L = none := Heap.get?_none_of_le F0.above
    clear F7 N7 F0
    k_steps
    with_reducible rename Fr _ _ _ _ => F9
    with_reducible rename News _ _ _ _ => N9
    refine' get_word (X7.keeps F9.keep) (back _ _ F9 N9 _ _ o8 he8) (back _ _ F9 N9 _ _ q8 hd8) lk8 ?g ?ga ?b ?h ?a ?n ?v ?_
    case g => k_is
    case ga => k_is
    case b => k_is
    case h => k_is
    case a => k_is
    case n => k_is
    case v => rfl
    dsimp only
    refine name_goes F9 N9 fun h10 m10 F10 N10 => ?_
    refine hE hne _ _ _ fun b o q => ?_
    obtain ⟨q1, sl, q2⟩ := hup b o q
    have hbL : b ≠ L := fun z => by rw [z, hL0] at q; cases q
    exact ⟨fun m => back _ _ F10 N10 b o (q1 m) hbL, sl, back _ _ F10 N10 b _ q2 hbL⟩
end
section
variable {w : World} {dp un : Nat} {fr : Option (List Env)} {gd : Option (List Code)} {E : Value → Shared → Prop} {s : Shared} {Q : Value → Shared → Prop} {mean : ExcName → Option Value} {mg mb : Str → Option Value} {base : Heap} {outer : List Env}
theorem law_turned_ok {n : Nat} {Z : Addr → Prop} {items : List D} {bs rs : List (Int × Int)} {S : List Addr} {v : Addr} (X₀ : (hd.heap_39 w.params).In base) (T₀ : Top hd.view_39 (looseW hd.view_39 []) mean mg mb base) (B : Below (Ar dp un fr gd) base outer s.heap) (hdep : dp + n + 22 < recursionLimit) (hu : un + 6 * n + 130 < cLine) (hz : (∀ x, Z x → ∃ o, s.heap.get? x = some o))
    {a ty tdx il whole : Addr} {num : Int} {low high : Value} {ty2 tdx2 wdx : Addr} {num2 wn : Int} {low2 high2 index2 wi : Value} {wc isC2 : Bool} {w1 w2 : Tok} (H : SubAt s.heap a ty .none) (K : TyH s.heap ty tdx (Str.ofString "array") num low high (.ref il) false) (I : IdxAt s.heap il whole rs) (hlen : rs.length = bs.length) (K2 : TyH s.heap ty2 tdx2 (Str.ofString "array") num2 low2 high2 index2 isC2) (W : TyH s.heap whole wdx (Str.ofString "int") wn (.int (-32768) w1) (.int 32767 w2) wi wc) (hw : ∀ c ∈ bs, inWord c)
    (V : Lies PySem.Challenge.rw_xw0007_01.prog w s.heap Z (n + 1) S (.ref v) (.arr bs items))
    (hQ : ∀ r, Due bs rs none r → ∀ h' tk v' S', s.heap.StaysIn h' → Lies PySem.Challenge.rw_xw0007_01.prog w h' Z (n + 1) S' v' (.arr r items) → (∀ x ∈ S', s.heap.get? x = none) → S'.Nodup → Q v' { s with heap := h', toks := tk })
    (hE : (∀ r, ¬ Due bs rs none r) → ∀ h' tk t, Up (frs outer) s.heap h' → Q (.str (Str.ofString "constraint_error") t) { s with heap := h', toks := tk }) :
    wpAny (model PySem.Challenge.rw_xw0007_01.prog w) (Ar dp un fr gd) (call (.ref 692) [.ref a, .ref ty2, .ref v]) Q E s := by
  have X := X₀.keeps B.stays
  have T := T₀.keeps B.stays
  refine' enterE [(Str.ofString "subtype", .ref a), (Str.ofString "source", .ref ty2), (Str.ofString "value", .ref v)] X T.nolimit (by omega) ?ho ?hcd ?hb ?hl ?hc ?h1 ?h2 ?h3 ?_
  case ho => k_is
  case hcd => k_is
  case hb => exact BindsTo.of_eq rfl
  case hl => exact locs rfl
  case hc => decide
  case h1 => rfl
  case h2 => rfl
  case h3 => rfl
  intro L h₁ hL F N
  k_fold
  k_steps
  apply unhold
  refine conv_ok (X.keeps F.keep) (T.keeps F.keep) (push_below B F rfl (by simp)) (by walk_at "my room") (by walk_at "my room") (fun x q => let ⟨o, e⟩ := hz x q; ⟨o, F.keep _ _ e⟩) (H.stays F.keep) (K.stays F.keep) (I.stays F.keep) hlen (K2.stays F.keep) (W.stays F.keep) hw (V.stays F.keep) (fun r hr h6 tk6 v6 S6 hk6 l6 hx6 nd6 => ?_) (fun hne h5 tk5 e5 t5 x5 => ?_)
  · have F6 := Fr.keeps F hk6
    have N6 := News.grown N hk6
    have hx7 : ∀ x ∈ S6, s.heap.get? x = none := fun x hx => stays_none F.keep (hx6 x hx)
    clear F N
    k_steps
    exact hQ r hr _ _ _ _ F6.keep l6 hx7 nd6
  · refine look_land B F x5 fun h7 x7 => ?_
    obtain ⟨kb, F7⟩ := caught_base B F x7 rfl
    have X7 := X₀.keeps kb
    have T7' := T₀.keeps kb
    have N7 : News (hideAll s.heap (frs outer)) L h7 [] := News.nil
    obtain ⟨_, _, _, _, ⟨dx6, sl6, od6, o6, _⟩, _⟩ := x7.exc
    have F0 := F
    clear X T X₀ T₀ F N
    refine catch_ada ?_
    k_steps
    apply unhold
    refine ⟨rfl, X7.keeps F7.keep, ⟨_, o6, rfl⟩, ?_⟩
    refine fly_lands x7 fun h8 x8 _ => ?_
    obtain ⟨_, F8⟩ := caught_base B F0 x8 rfl
    have hup : Up (frs outer) s.heap h8 := (Fly.out F0 rfl x8).up
    obtain ⟨vs8, _, _, _, ⟨dx8, sl8, od8, o8, q8, lk8⟩, _⟩ := x8.exc
    have he8 : e5 ≠ L := fun z => by
      obtain ⟨o, _, _, ho, hd, _⟩ := F8.ns
      rw [← z, o8] at ho; cases ho; cases hd
    have hd8 : dx8 ≠ L := fun z => ns_lacks F8.ns (by rfl) (z ▸ q8) lk8
    obtain ⟨gl, NG, back⟩ := snapAll F8
    have hL0 : s.heap.get? L = none := Heap.get?_none_of_le F0.above
    clear F7 N7 F0
    k_steps
    with_reducible rename Fr _ _ _ _ => F9
    with_reducible rename News _ _ _ _ => N9
    refine' get_word (X7.keeps F9.keep) (back _ _ F9 N9 _ _ o8 he8) (back _ _ F9 N9 _ _ q8 hd8) lk8 ?g ?ga ?b ?h ?a ?n ?v ?_
    case g => k_is
    case ga => k_is
    case b => k_is
    case h => k_is
    case a => k_is
    case n => k_is
    case v => rfl
    dsimp only
    refine name_goes F9 N9 fun h10 m10 F10 N10 => ?_
    refine hE hne _ _ _ fun b o q => ?_
    obtain ⟨q1, sl, q2⟩ := hup b o q
    have hbL : b ≠ L := fun z => by rw [z, hL0] at q; cases q
    exact ⟨fun m => back _ _ F10 N10 b o (q1 m) hbL, sl, back _ _ F10 N10 b _ q2 hbL⟩
end
section
variable {w : World} {dp un : Nat} {fr : Option (List Env)} {gd : Option (List Code)} {E : Value → Shared → Prop} {s : Shared} {Q : Value → Shared → Prop} {mean : ExcName → Option Value} {mg mb : Str → Option Value} {base : Heap} {outer : List Env}
theorem law_length_ok (X : (hd.heap_39 w.params).In s.heap) (T : Top hd.view_39 (looseW hd.view_39 []) mean mg mb s.heap) (hdep : dp + 2 < recursionLimit) {p : Addr} {c : Int × Int} {t1 t2 : Tok} {n : Nat} (o : s.heap.get? p = some { cls := .type "tuple", data := .seq #[.int c.1 t1, .int c.2 t2] n })
    (hQ : ∀ h' tk t, s.heap.StaysIn h' → Q (.int (lenOf c) t) { s with heap := h', toks := tk }) :
    wpAny (model PySem.Challenge.rw_xw0007_01.prog w) (Ar dp un fr gd) (call (.ref 666) [.ref p]) Q E s := by
  have hT : IsTup s.heap p #[.int c.1 t1, .int c.2 t2] := ⟨_, o, rfl, _, rfl⟩
  refine' enter [(Str.ofString "pair", .ref p)] X T.nolimit (by omega) ?ho ?hcd ?hb ?hl ?hc ?h1 ?h2 ?h3 ?_
  case ho => k_is
  case hcd => k_is
  case hb => exact BindsTo.of_eq rfl
  case hl => exact locs rfl
  case hc => decide
  case h1 => rfl
  case h2 => rfl
  case h3 => rfl
  intro L h₁ hL F N
  k_fold
  k_steps
  with_reducible rename Fr _ _ _ _ => F2
  exact hQ _ _ _ F2.keep

/-- due bounds as a value -/
def DueV (h : Heap) (bs rs : List (Int × Int)) (asked : Option (List (Int × Int))) (l : Addr) (v : Value) : Prop :=
  (∃ r, Due bs rs asked r ∧ v = .ref l ∧ PairsAt h l r ∧ r.length ≤ 100) ∨ ((∀ r, ¬ Due bs rs asked r) ∧ v = .none)

theorem law_due_none_ok (X : (hd.heap_39 w.params).In s.heap) (T : Top hd.view_39 (looseW hd.view_39 []) mean mg mb s.heap) (hdep : dp + 4 < recursionLimit) {b r : Addr} {bs rs : List (Int × Int)}
    (H3 : PairsAt s.heap b bs) (hb : bs.length ≤ 100) (H4 : PairsAt s.heap r rs) (hlen : rs.length = bs.length)
    (hQ : ∀ h' tk v, s.heap.StaysIn h' → DueV h' bs rs none b v → Q v { s with heap := h', toks := tk }) :
    wpAny (model PySem.Challenge.rw_xw0007_01.prog w) (Ar dp un fr gd) (call (.ref 671) [.ref b, .ref r, .none]) Q E s := by
  have H3' := H3
  obtain ⟨bv, B1, B2⟩ := H3
  obtain ⟨rv, R1, R2⟩ := H4
  have lb : bv.size = bs.length := by
    have := B2.length
    rwa [Array.length_toList] at this
  have lr : rv.size = rs.length := by
    have := R2.length
    rwa [Array.length_toList] at this
  have B3 := B1.isList
  refine' enter [(Str.ofString "edges", .ref b), (Str.ofString "spans", .ref r), (Str.ofString "asked", .none)] X T.nolimit (by omega) ?ho ?hcd ?hb ?hl ?hc ?h1 ?h2 ?h3 ?_
  case ho => k_is
  case hcd => k_is
  case hb => exact BindsTo.of_eq rfl
  case hl => exact locs rfl
  case hc => decide
  case h1 => rfl
  case h2 => rfl
  case h3 => rfl
  intro L h₁ hL F N
  k_fold
  k_steps
  apply unhold
  refine for_range rfl ?h ?hs
  case hs => intro x; rfl
  k_steps
  apply unhold
  refine call_range_1 ?_
  apply unhold
  refine ⟨_, bv.size, _, _, _, rfl, IsRange.new .., by omega, fun hh K e hK => ?_⟩
  have FH := (F.push { cls := .type "range", data := .fields #[.int 0 (tk + 1 + 1), .int bv.size (tk + 1), .int 1 (tk + 1 + 1 + 1)] })
  rw [show h₁.push _ = hh from e] at FH
  have hK0 : s.heap.get? K = none := stays_none FH.keep (by rw [hK]; exact Heap.get?_none_of_le (Nat.le_refl _))
  have hKL : L ≠ K := fun q => by have := FH.ns.lt; rw [q, hK] at this; exact Nat.lt_irrefl _ this
  clear F N
  refine ⟨OkI bs rs s.heap L (Str.ofString "edges") (.ref b) (Str.ofString "spans") (.ref r),
    ⟨fun j c q hj => absurd hj (Nat.not_lt_zero _), _, FH, rfl, rfl⟩, ?_, ?_, ?_⟩
  · rintro i h h' ⟨a1, m, F', m1, m2⟩ hk
    exact ⟨a1, m, fr_at F' (fun b o hb q => hk b o q (.inr hb)) hKL hK0, m1, m2⟩
  · intro i t h3 tk3 oI hi hI hsoft HI
    k_fold
    obtain ⟨hok, m, F3, hm1, hm2⟩ := HI
    obtain ⟨c, p, t1, t2, n1, hc, e1, o1⟩ := B2.get (i := i) (List.getElem?_eq_getElem (by rw [Array.length_toList]; exact hi))
    obtain ⟨q, p2, t3, t4, n2, hq, e2, o2⟩ := R2.get (i := i) (List.getElem?_eq_getElem (by rw [Array.length_toList, lr, hlen, ← lb]; exact hi))
    have hv1 : bv[i]? = some (.ref p) := by rw [← Array.getElem?_toList, List.getElem?_eq_getElem (by rw [Array.length_toList]; exact hi), e1]
    have hv2 : rv[i]? = some (.ref p2) := by rw [← Array.getElem?_toList, List.getElem?_eq_getElem (by rw [Array.length_toList, lr, hlen, ← lb]; exact hi), e2]
    have hT1 : IsTup s.heap p #[.int c.1 t1, .int c.2 t2] := ⟨_, o1, rfl, _, rfl⟩
    have hT2 : IsTup s.heap p2 #[.int q.1 t3, .int q.2 t4] := ⟨_, o2, rfl, _, rfl⟩
    obtain ⟨gl, NG, back⟩ := snapAll F3
    clear e1 e2
    k_steps
    rotate_left 2
    · with_reducible rename Fr _ _ _ _ => F2
      with_reducible rename News _ _ _ _ => N2
      apply unhold
      refine ⟨_, _, rfl, back _ _ F2 N2 K oI hI (Ne.symm hKL), fun j c' q' hj h1 h2 => ?_, _, F2, by simp +decide only [↓reduceIte]; exact hm1, by simp +decide only [↓reduceIte]; exact hm2⟩
      rcases Nat.lt_succ_iff_lt_or_eq.mp hj with hj | rfl
      · exact hok j c' q' hj h1 h2
      · rw [hc] at h1; cases h1
        rw [hq] at h2; cases h2
        unfold okR; omega
    · with_reducible rename Fr _ _ _ _ => F2
      with_reducible rename News _ _ _ _ => N2
      apply unhold
      refine ⟨_, _, rfl, back _ _ F2 N2 K oI hI (Ne.symm hKL), fun j c' q' hj h1 h2 => ?_, _, F2, by simp +decide only [↓reduceIte]; exact hm1, by simp +decide only [↓reduceIte]; exact hm2⟩
      rcases Nat.lt_succ_iff_lt_or_eq.mp hj with hj | rfl
      · exact hok j c' q' hj h1 h2
      · rw [hc] at h1; cases h1
        rw [hq] at h2; cases h2
        unfold okR; omega
    all_goals
      with_reducible rename Fr _ _ _ _ => F2
      have hne : ∀ z, ¬ Due bs rs none z := fun z hz => by
        have z1 := hz.2 i c q hc hq
        unfold okR at z1
        omega
      dsimp only
      exact hQ _ _ _ F2.keep (.inr ⟨hne, rfl⟩)
  · rintro h' tk ⟨hok, m, F3, hm1, hm2⟩
    have N3 : News s.heap L h' [] := News.nil
    clear FH
    k_steps
    exact hQ _ _ _ F3.keep (.inl ⟨bs, ⟨rfl, fun i c q h1 h2 => hok i c q (by have := (List.getElem?_eq_some_iff.mp h1).1; omega) h1 h2⟩, rfl, PairsAt.stays H3' F3.keep, hb⟩)
end
section
variable {w : World} {dp un : Nat} {fr : Option (List Env)} {gd : Option (List Code)} {E : Value → Shared → Prop} {s : Shared} {Q : Value → Shared → Prop} {mean : ExcName → Option Value} {mg mb : Str → Option Value} {base : Heap} {outer : List Env}
theorem law_due_some_ok (X : (hd.heap_39 w.params).In s.heap) (T : Top hd.view_39 (looseW hd.view_39 []) mean mg mb s.heap) (hdep : dp + 4 < recursionLimit) (hu : un + 80 < cLine) {b r l : Addr} {bs rs as : List (Int × Int)}
    (H3 : PairsAt s.heap b bs) (hb : bs.length ≤ 100) (H4 : PairsAt s.heap l as) (ha : as.length ≤ 100)
    (hQ : ∀ h' tk v, s.heap.StaysIn h' → DueV h' bs rs (some as) l v → Q v { s with heap := h', toks := tk }) :
    wpAny (model PySem.Challenge.rw_xw0007_01.prog w) (Ar dp un fr gd) (call (.ref 671) [.ref b, .ref r, .ref l]) Q E s := by
  have H4' := H4
  obtain ⟨bv, B1, B2⟩ := H3
  obtain ⟨av, A1, A2⟩ := H4
  have lb : bv.size = bs.length := by
    have := B2.length
    rwa [Array.length_toList] at this
  have la : av.size = as.length := by
    have := A2.length
    rwa [Array.length_toList] at this
  have avsz : av.size ≤ sizeLine := by rw [la, sizeLine]; omega
  have bvsz : bv.size ≤ sizeLine := by rw [lb, sizeLine]; omega
  refine' enter [(Str.ofString "edges", .ref b), (Str.ofString "spans", .ref r), (Str.ofString "asked", .ref l)] X T.nolimit (by omega) ?ho ?hcd ?hb ?hl ?hc ?h1 ?h2 ?h3 ?_
  case ho => k_is
  case hcd => k_is
  case hb => exact BindsTo.of_eq rfl
  case hl => exact locs rfl
  case hc => decide
  case h1 => rfl
  case h2 => rfl
  case h3 => rfl
  intro L h₁ hL F1 N1
  k_steps
  apply unhold
  refine' comp_list (cl := []) ?hh ?hclos ?hcell ?hkind ?hnames ?hx ?h ?hs
  walk_at "my comp"
  k_steps
  refine ⟨l, av, rfl, A1.isList.at fun o e => F1.keep _ _ e, avsz, fun hh K e hK => ?_⟩
  obtain rfl : h₁ = hh := e
  refine ⟨[], fun i ys h => IntL ys ((as.take i).map lenOf), (fun _ hb => absurd hb List.not_mem_nil), List.not_mem_nil, trivial, fun i ys h h' x k => x, ?_, ?_⟩
  · intro i v ys h3 g3 d3 t3 os3 m₃ hv hI hns hm hsz hlv hk
    obtain ⟨c, p, t1, t2, n, hc, rfl, ho⟩ := A2.get (by simpa using hv)
    have FC : Fr h₁ (K + 2) h3 m₃ := ⟨hns, fun b o e => hk b o List.not_mem_nil e, by rw [hK]; exact Nat.le_add_right _ _⟩
    have NC : News h₁ (K + 2) h3 [] := News.nil
    have X3 := X.keeps F1.keep
    have T3 := T.keeps F1.keep
    have k03 : s.heap.StaysIn h3 := stays_trans F1.keep FC.keep
    clear F1 N1
    k_steps
    apply unhold
    refine law_length_ok (X3.keeps FC.keep) (T3.keeps FC.keep) (by walk_at "my room") (k03 _ _ ho) fun h4 tk4 t4 hk4 => ?_
    k_unfold
    refine ⟨_, _, rfl, fun b o _ hb e => hk4 b o e, ⟨_, FC.ns.keeps hk4⟩, ?_⟩
    show IntL _ _
    rw [take_snoc hc, List.map_append]
    exact IntL.snoc hI
  intro h' tk ys hpl hsz hI hk
  have hk2 : h₁.StaysIn h' := fun b o e => hk b o List.not_mem_nil e
  have F2 := Fr.keeps F1 hk2
  have N2 := News.grown N1 hk2
  rw [la, List.take_length] at hI
  have I1 : IntsAt h' (K + 1) (as.map lenOf) := ⟨ys, hpl, hI⟩
  clear F1 N1
  k_steps
  apply unhold
  refine' comp_list (cl := []) ?hh ?hclos ?hcell ?hkind ?hnames ?hx ?h ?hs
  walk_at "my comp"
  k_steps
  refine ⟨b, bv, rfl, B1.isList.at fun o e => F2.keep _ _ e, bvsz, fun hh K' e hK' => ?_⟩
  obtain rfl : h' = hh := e
  refine ⟨[], fun i ys h => IntL ys ((bs.take i).map lenOf), (fun _ hb => absurd hb List.not_mem_nil), List.not_mem_nil, trivial, fun i ys h h' x k => x, ?_, ?_⟩
  · intro i v ys h3 g3 d3 t3 os3 m₃ hv hI hns hm hsz hlv hk
    obtain ⟨c, p, t1, t2, n, hc, rfl, ho⟩ := B2.get (by simpa using hv)
    have FC : Fr h' (K' + 2) h3 m₃ := ⟨hns, fun b o e => hk b o List.not_mem_nil e, by rw [hK']; exact Nat.le_add_right _ _⟩
    have NC : News h' (K' + 2) h3 [] := News.nil
    have X3 := X.keeps F2.keep
    have T3 := T.keeps F2.keep
    have k03 : s.heap.StaysIn h3 := stays_trans F2.keep FC.keep
    clear F2 N2
    k_steps
    apply unhold
    refine law_length_ok (X3.keeps FC.keep) (T3.keeps FC.keep) (by walk_at "my room") (k03 _ _ ho) fun h4 tk4 t4 hk4 => ?_
    k_unfold
    refine ⟨_, _, rfl, fun b o _ hb e => hk4 b o e, ⟨_, FC.ns.keeps hk4⟩, ?_⟩
    show IntL _ _
    rw [take_snoc hc, List.map_append]
    exact IntL.snoc hI
  intro h5 tk5 ys5 hpl5 hsz5 hI5 hk5
  have hk6 : h'.StaysIn h5 := fun b o e => hk5 b o List.not_mem_nil e
  have F3 := Fr.keeps F2 hk6
  have N3 := News.grown N2 hk6
  rw [lb, List.take_length] at hI5
  have I2 : IntsAt h5 (K' + 1) (bs.map lenOf) := ⟨ys5, hpl5, hI5⟩
  have I1' := I1.stays hk6
  clear F2 N2
  k_steps
  refine eq_dataH I1'.reads I2.reads (ints_shaped _) (ints_shaped _) (by walk_at "my room") ?_
  rw [show PyData.eqv (.list ((as.map lenOf).map PyData.int)) (.list ((bs.map lenOf).map PyData.int)) = decide (as.map lenOf = bs.map lenOf) from ints_eqv _ _]
  by_cases hd : as.map lenOf = bs.map lenOf
  · rw [decide_eq_true hd]
    k_steps
    dsimp only
    exact hQ _ _ _ F3.keep (.inl ⟨as, ⟨rfl, hd.symm⟩, rfl, H4'.stays F3.keep, ha⟩)
  · rw [decide_eq_false hd]
    k_steps
    dsimp only
    exact hQ _ _ _ F3.keep (.inr ⟨fun z hz => hd hz.2.symm, rfl⟩)
end
theorem PairsAt.reads {h : Heap} {l : Addr} {bs : List (Int × Int)} (x : PairsAt h l bs) : Reads h (.ref l) (.list (bs.map pairD)) [l] := by
  obtain ⟨vs, ⟨n, o⟩, r⟩ := x
  exact .list o rfl rfl (readsAll_pairs r)
theorem reads_tup3 {h : Heap} {a : Addr} {p0 p1 p2 : PyData} {as : List Addr} (x : Reads h (.ref a) (.tuple [p0, p1, p2]) as) : ∃ o vs n v0 v1 v2 a0 a1 a2, h.get? a = some o ∧ o.cls = .type "tuple" ∧ o.data = .seq vs n ∧ vs.toList = [v0, v1, v2] ∧ Reads h v0 p0 a0 ∧ Reads h v1 p1 a1 ∧ Reads h v2 p2 a2 ∧ ∀ x ∈ a2, x ∈ as := by
  cases x with
  | tuple ho hc hd hr =>
    rename_i o vs n
    generalize hq : vs.toList = q at hr
    cases hr with
    | cons r0 hr =>
      cases hr with
      | cons r1 hr =>
        cases hr with
        | cons r2 hr =>
          cases hr
          exact ⟨o, vs, n, _, _, _, _, _, _, ho, hc, hd, hq, r0, r1, r2, fun x hx => by simp [hx]⟩
section
variable {w : World} {dp un : Nat} {fr : Option (List Env)} {gd : Option (List Code)} {E : Value → Shared → Prop} {s : Shared} {Q : Value → Shared → Prop} {mean : ExcName → Option Value} {mg mb : Str → Option Value} {base : Heap} {outer : List Env}
/-- a refusal is due, and came -/
theorem is_copy_no (X : (hd.heap_39 w.params).In s.heap) (T : Top hd.view_39 (looseW hd.view_39 []) mean mg mb s.heap) (hdep : dp + 2 < recursionLimit) {v : Value} {t : Tok}
    (hQ : ∀ h' tk, s.heap.StaysIn h' → Q (.bool true) { s with heap := h', toks := tk }) :
    wpAny (model PySem.Challenge.rw_xw0007_01.prog w) (Ar dp un fr gd) (call (.ref 678) [.str (Str.ofString "constraint_error") t, v, .none]) Q E s := by
  refine' enter [(Str.ofString "found", .str (Str.ofString "constraint_error") t), (Str.ofString "value", v), (Str.ofString "due", .none)] X T.nolimit (by omega) ?ho ?hcd ?hb ?hl ?hc ?h1 ?h2 ?h3 ?_
  case ho => k_is
  case hcd => k_is
  case hb => exact BindsTo.of_eq rfl
  case hl => exact locs rfl
  case hc => decide
  case h1 => rfl
  case h2 => rfl
  case h3 => rfl
  intro L h₁ hL F N
  k_fold
  k_steps
  all_goals with_reducible rename Fr _ _ _ _ => F2
  all_goals exact hQ _ _ F2.keep
theorem is_copy_yes {n : Nat} {Z : Addr → Prop} {items : List D} {bs r : List (Int × Int)} {S S' : List Addr} {v v' l : Addr} {hw : Heap} (X : (hd.heap_39 w.params).In hw) (T : Top hd.view_39 (looseW hd.view_39 []) mean mg mb hw) (hws : hw.StaysIn s.heap) (hS' : ∀ x ∈ S', hw.get? x = none) (hdep : dp + n + 12 < recursionLimit) (hu : un + 6 * n + 100 < cLine) (hn : n ≤ 8)
    (V : Lies PySem.Challenge.rw_xw0007_01.prog w s.heap Z (n + 1) S (.ref v) (.arr bs items)) (V' : Lies PySem.Challenge.rw_xw0007_01.prog w s.heap Z (n + 1) S' (.ref v') (.arr r items)) (nd : S'.Nodup) (hdis : ∀ x ∈ S', x ∉ S ∧ ¬ Z x) (hz : ∀ x, Z x → ∃ o, s.heap.get? x = some o)
    (hr : PairsAt s.heap l r) (hl : l ∉ S')
    (hQ : ∀ h' tk, (∀ b o, s.heap.get? b = some o → (b ∉ S' ∨ Soft o) → h'.get? b = some o) → Q (.bool true) { s with heap := h', toks := tk }) :
    wpAny (model PySem.Challenge.rw_xw0007_01.prog w) (Ar dp un fr gd) (call (.ref 678) [.ref v', .ref v, .ref l]) Q E s := by
  have hb0 : (hideAll s.heap S').StaysIn s.heap := fun x o e => of_hideAll _ e
  have hin : ∀ x o, s.heap.get? x = some o → x ∉ S' → (hideAll s.heap S').get? x = some o := fun x o e hx => hideAll_get _ e hx
  have hout : ∀ x, x ∈ S' → (hideAll s.heap S').get? x = none := fun x hx => hideAll_none _ hx
  have hsz0 : (hideAll s.heap S').objs.size = s.heap.objs.size := hideAll_size _ _
  generalize hideAll s.heap S' = h0 at hb0 hin hout hsz0
  have hw0 : hw.StaysIn h0 := fun x o e => hin x o (hws _ _ e) fun hm => by
    have := hS' x hm
    rw [e] at this; cases this
  have hr0 : PairsAt h0 l r := by
    obtain ⟨vs, ⟨n, o⟩, pl⟩ := hr
    refine ⟨vs, ⟨n, hin _ _ o hl⟩, pl.keep fun b o e sf => hin b o e fun hm => ?_⟩
    obtain ⟨o', e', hn⟩ := V'.hard b hm
    rw [e] at e'; cases e'
    exact hn sf
  have X0 := X.keeps hw0
  have T0 := T.keeps hw0
  clear X T
  refine' enterG [(Str.ofString "found", .ref v'), (Str.ofString "value", .ref v), (Str.ofString "due", .ref l)] hb0 (Nat.le_of_eq hsz0) (news := []) (fun _ hp => absurd hp List.not_mem_nil) X0 T0.nolimit (by omega) ?ho ?hcd ?hb ?hl ?hc ?h1 ?h2 ?h3 ?_
  case ho => k_is
  case hcd => k_is
  case hb => exact BindsTo.of_eq rfl
  case hl => exact locs rfl
  case hc => decide
  case h1 => rfl
  case h2 => rfl
  case h3 => rfl
  intro L h₁ hL hk1 F N
  k_fold
  k_steps
  apply unhold
  refine seen_ok (n + 1) (X0.keeps F.keep) (T0.keeps F.keep) (by walk_at "my room") (by walk_at "my room") (V.stays hk1) fun h2 tk2 v2 p2 as2 hk2 R2 hf2 SR2 => ?_
  obtain ⟨ps, LR, rfl⟩ := SR2
  have F2 := Fr.keeps F hk2
  have V2 := V'.stays (stays_trans hk1 hk2)
  have hLn : ∃ o, h₁.get? L = some o := let ⟨o, _, _, ho, _⟩ := F.ns; ⟨o, ho⟩
  clear F N
  cases R2 with
  | tuple o2 c2 d2 r2 =>
    rename_i a2 oo2 vs2 n2
    have R2 : Reads h2 (.ref a2) (.tuple [.str (Str.ofString "array"), .list (bs.map pairD), .list ps]) as2 := .tuple o2 c2 d2 r2
    have Vv := V.stays (stays_trans hk1 hk2)
    have hLS : ∀ {S : List Addr} {u : Value} {d : D}, Lies PySem.Challenge.rw_xw0007_01.prog w s.heap Z (n + 1) S u d → L ∉ S := fun x hm => by
      obtain ⟨o, e⟩ := x.live L hm
      have := Heap.lt_size e
      rw [hL] at this; exact Nat.lt_irrefl _ this
    have hLr : ∀ {S : List Addr}, L ∉ S → ∀ b o, h2.get? b = some o → (b ∈ S ∨ Z b ∨ Soft o) → b ≠ L := by
      rintro S hS b o e hb rfl
      rcases hb with hb | hb | hb
      · exact hS hb
      · obtain ⟨o', q⟩ := hz _ hb
        have := Heap.lt_size q
        rw [hL] at this; exact Nat.lt_irrefl _ this
      · exact not_soft_ns F2.ns e hb
    obtain ⟨gl, NG, back⟩ := snapAll F2
    have hLa : L ∉ as2 := fun hm => by obtain ⟨o, e⟩ := hLn; exact fresh_ne e (hf2 _ hm) rfl
    have past : ∀ {h' : Heap} {m' : Str → Option Value}, Fr h0 L h' m' → News h0 L h' gl →
        Lies PySem.Challenge.rw_xw0007_01.prog w h' Z (n + 1) S' (.ref v') (.arr r items) ∧ Lies PySem.Challenge.rw_xw0007_01.prog w h' Z (n + 1) S (.ref v) (.arr bs items) ∧ Reads h' (.ref a2) (.tuple [.str (Str.ofString "array"), .list (bs.map pairD), .list ps]) as2 := fun F' N' =>
      ⟨V2.move (fun _ q => q) fun b o e hb => back _ _ F' N' b o e (hLr (hLS V') b o e hb), Vv.move (fun _ q => q) fun b o e hb => back _ _ F' N' b o e (hLr (hLS V) b o e hb),
        reads_move R2 fun b o e hb => back _ _ F' N' b o e (fun z => by rcases hb with hb | hb; exact hLa (z ▸ hb); exact not_soft_ns F2.ns (z ▸ e) hb)⟩
    k_steps
    with_reducible rename Fr _ _ _ _ => F3
    with_reducible rename News _ _ _ _ => N3
    obtain ⟨P1, P2, P3⟩ := past F3 N3
    obtain ⟨_, dx', b', l', vs', S5, e1, e2, j1, j2, _⟩ := id P1
    cases e1
    refine' kin_callT ?k1 ?k2 ?k3 ?ty ?k4 ?k5 ?k6 ?k7 ?k8 ?k9 ?_
    case k1 => exact X0.keeps F3.keep
    case k2 => exact Has.instAt j1
    case k3 => kin_no
    case ty => kernel_rfl
    case k4 => k_is
    case k5 => k_is
    case k6 => k_is
    case k7 => k_is
    case k8 => k_is
    case k9 => k_is
    k_steps
    apply unhold
    refine seen_ok (n + 1) (X0.keeps F3.keep) (T0.keeps F3.keep) (by walk_at "my room") (by walk_at "my room") P1 fun h4 tk4 v4 p4 as4 hk4 R4 hf4 SR4 => ?_
    obtain ⟨ps4, LR4, rfl⟩ := SR4
    have F4 := Fr.keeps F3 hk4
    have Q1 := P1.stays hk4
    have Q2 := P2.stays hk4
    have Q3 := reads_stays P3 hk4
    have hLa4 : L ∉ as4 := fun hm => by obtain ⟨o, _, _, ho, _⟩ := F3.ns; exact fresh_ne ho (hf4 _ hm) rfl
    clear past back F3 N3 P1 P2 P3 V2 Vv R2
    obtain ⟨gl, NG, back⟩ := snapAll F4
    have hns4 := F4.ns
    obtain ⟨o6, vs6, n6, u0, u1, u2, _, _, a62, ho6, hc6, hd6, hv6, _, _, hu2, hsub6⟩ := reads_tup3 Q3
    have hT6 : IsTup h4 a2 vs6 := ⟨o6, ho6, hc6, n6, hd6⟩
    have hi6 : vs6[2]? = some u2 := by rw [← Array.getElem?_toList, hv6]; rfl
    k_steps
    have hsz6 : vs6.size = 3 := by rw [← Array.length_toList, hv6]; rfl
    refine' item_tuple (j := 2) (x := u2) ?ht ?lo ?hi ?j ?x ?_ ?hs ?hg
    case ht => exact hT6
    case lo => decide
    case hi => decide
    case j => rw [hsz6]; rfl
    case x => exact hi6
    case hs => with_unfolding_all rfl
    case hg => intro _; with_unfolding_all rfl
    k_steps
    with_reducible rename Fr _ _ _ _ => F5
    with_reducible rename News _ _ _ _ => N5
    have bk5 := back _ _ F5 (news_sub N5 fun p hp => .tail _ hp)
    have hps : ps4 = ps := by
      have := SeenR.unique (n := n + 1) (d := .arr [] items) ⟨ps4, LR4, rfl⟩ ⟨ps, LR, rfl⟩
      injection this with this
      injection this with _ this
      injection this with _ this
      injection this with this
      injection this
    subst hps
    have mv : ∀ {v : Value} {d : PyData} {as : List Addr}, L ∉ as → Reads h4 v d as → Reads _ v d as := fun hn x => reads_move x fun b o e hb => bk5 b o e (fun z => by rcases hb with hb | hb; exact hn (z ▸ hb); exact not_soft_ns hns4 (z ▸ e) hb)
    have Ra := mv hLa4 R4
    have Ru := mv (fun hm => hLa (hsub6 _ hm)) hu2
    have Rl := (hr0.stays F5.keep).reads
    have Rb := Reads.tuple (N5 _ (.head _)).1 rfl rfl (.cons (.str _ _) (.cons Rl (.cons Ru .nil)))
    have hlay := SeenR.lay (n := n + 1) (d := .arr r items) ⟨ps4, LR4, rfl⟩
    have hsh : PySem.SeqAt.shaped (.tuple [.str (Str.ofString "array"), .list (r.map pairD), .list ps4]) = true := by
      unfold PySem.SeqAt.shaped
      rw [hlay.1, Bool.true_and, decide_eq_true_eq]
      have := hlay.2
      omega
    refine ne_dataH Ra Rb hsh hsh (by walk_at "my room") ?_
    rw [PySem.SeqAt.eqv_refl _ hlay.1]
    simp only [Bool.not_true]
    k_steps
    apply unhold
    with_reducible rename Fr _ _ _ _ => F6
    have mv6 := back _ _ F6 (by with_reducible rename News _ _ _ _ => N6; exact news_sub N6 fun p hp => by first | exact hp | exact List.mem_cons_of_mem _ hp)
    have hLf : ∀ {S : List Addr}, L ∉ S → ∀ b o, h4.get? b = some o → (b ∈ S ∨ Z b ∨ Soft o) → b ≠ L := by
      rintro S hS b o e hb rfl
      rcases hb with hb | hb | hb
      · exact hS hb
      · obtain ⟨o', q⟩ := hz _ hb
        have := Heap.lt_size q
        rw [hL] at this; exact Nat.lt_irrefl _ this
      · exact not_soft_ns hns4 e hb
    have hLS' := hLS V'
    have hLS2 := hLS V
    have Y1 := Q1.move (Z' := Z) (fun _ q => q) fun b o e hb => mv6 b o e (hLf hLS' b o e hb)
    have Y2 := Q2.move (Z' := Z) (fun _ q => q) fun b o e hb => mv6 b o e (hLf hLS2 b o e hb)
    have Y3 := reads_move Q3 fun b o e hb => mv6 b o e (fun z => by rcases hb with hb | hb; exact hLa (z ▸ hb); exact not_soft_ns hns4 (z ▸ e) hb)
    refine spoil_ok (n + 1) X0 T0 F6.keep hout (by walk_at "my room") (by walk_at "my room") Y1 nd (fun x hx => (hdis x hx).2) (fun x hx => let ⟨o, e⟩ := hz x hx; ⟨o, F6.keep _ _ (hin _ _ e fun hm => (hdis x hm).2 hx)⟩) fun h7 tk7 hk7 => ?_
    have F7 := fr_keepX F6 (fun b o e hb => hk7 b o e (.inl hb)) hout hLS'
    have hard6 := Y1.hard
    have N7 : News h0 L h7 [] := News.nil
    have Y2' := Y2.move (Z' := Z) (fun _ q => q) fun b o e hb => hk7 b o e (by
      rcases hb with hb | hb | hb
      · exact .inl fun hm => (hdis b hm).1 hb
      · exact .inl fun hm => (hdis b hm).2 hb
      · exact .inr hb)
    have Y3' := reads_move Y3 fun b o e hb => hk7 b o e (by
      rcases hb with hb | hb
      · refine .inl fun hm => ?_
        obtain ⟨o', e'⟩ := V'.live b hm
        exact fresh_ne (hk1 _ _ e') (hf2 _ hb) rfl
      · exact .inr hb)
    obtain ⟨gl7, NG7, back7⟩ := snapAll F7
    clear mv6 bk5 mv
    k_steps
    apply unhold
    refine seen_ok (n + 1) (X0.keeps F7.keep) (T0.keeps F7.keep) (by walk_at "my room") (by walk_at "my room") Y2' fun h8 tk8 v8 p8 as8 hk8 R8 hf8 SR8 => ?_
    have hp8 := SeenR.unique SR8 ⟨ps4, LR, rfl⟩
    subst hp8
    have F8 := Fr.keeps F7 hk8
    have N8 : News h0 L h8 [] := News.nil
    have Z3 := reads_stays Y3' hk8
    have hlay8 := SeenR.lay SR8
    have hsh8 : PySem.SeqAt.shaped (.tuple [.str (Str.ofString "array"), .list (bs.map pairD), .list ps4]) = true := by
      unfold PySem.SeqAt.shaped
      rw [hlay8.1, Bool.true_and, decide_eq_true_eq]
      have := hlay8.2
      omega
    clear F7 N7
    k_steps
    refine eq_dataH R8 Z3 hsh8 hsh8 (by walk_at "my room") ?_
    rw [PySem.SeqAt.eqv_refl _ hlay8.1]
    try dsimp only
    refine hQ _ _ fun b o e hb => F8.keep _ _ (hin _ _ e fun hm => ?_)
    rcases hb with hb | hb
    · exact hb hm
    · obtain ⟨o', e', hn⟩ := V'.hard b hm
      rw [e] at e'; cases e'
      exact hn hb
end
section
variable {prog : Program} {w : World} {A : Around} {E : Value → Shared → Prop} {s : Shared} {env : Env}
/-- a list comprehension over a range from 0 by 1; K: the iterator, K + 1: the list that is made, K + 2: the block's names; mu: what a turn may change -/
inductive CRInv (prog : Program) (w : World) (A : Around) (elt : Expr) (scope : Scope) (cl : List (Str × Addr)) (env : Env) (x : Str) (Q : Value → Shared → Prop) (s₁ : Shared) (n : Nat) (hh : Heap) (K : Addr) : Prop
  | mk (mu : List Addr) (Inv : Nat → List Value → Heap → Prop) (h1 : ∀ b ∈ mu, b < K) (h2 : Inv 0 [] hh)
    (h3 : ∀ i ys h h', Inv i ys h → (∀ b o, h.get? b = some o → (Soft o ∨ (b ≠ K ∧ b ≠ K + 1 ∧ b ≠ K + 2)) → h'.get? b = some o) → Inv i ys h')
    (h4 : ∀ i t ys h₃ g₃ d₃ t₃ os₃ m₃, i < n → Inv i ys h₃ → h₃.Ns (K + 2) m₃ → m₃ x = some (.int (i : Nat) t) → K + 3 ≤ h₃.objs.size → (∀ b, b = K ∨ b = K + 1 ∨ b = K + 2 → ∃ o, h₃.get? b = some o) → (∀ b o, b ∉ mu → hh.get? b = some o → h₃.get? b = some o) →
      wpAny (model prog w) A (eval elt (compEnvC scope cl (K + 2) env)) (fun y s₄ => Hold (CTurn mu (K + 2) h₃ g₃ d₃ os₃ (Inv (i + 1) (ys ++ [y])) s₄)) (fun _ _ => False) ⟨h₃, g₃, d₃, t₃, os₃⟩)
    (h5 : ∀ h' tk ys, h'.PlainList (K + 1) ys → ys.size = n → Inv n ys.toList h' → (∀ b o, b ∉ mu → hh.get? b = some o → h'.get? b = some o) → Q (.ref (K + 1)) { s₁ with heap := h', toks := tk }) :
    CRInv prog w A elt scope cl env x Q s₁ n hh K
inductive CRArg (prog : Program) (w : World) (A : Around) (elt : Expr) (scope : Scope) (cl : List (Str × Addr)) (env : Env) (x : Str) (Q : Value → Shared → Prop) (xv : Value) (s₁ : Shared) : Prop
  | mk (l : Addr) (n : Nat) (t u v : Tok) (e : xv = .ref l) (hl : IsRange s₁.heap l 0 (n : Nat) 1 t u v) (hn : n ≤ 1000) (k : ∀ hh K, s₁.heap = hh → K = hh.objs.size → CRInv prog w A elt scope cl env x Q s₁ n hh K) : CRArg prog w A elt scope cl env x Q xv s₁
theorem comp_range {elt iter : Expr} {x : Str} {px : Pos} {scope : Scope} {cl : List (Str × Addr)} {pos : Pos} {Q : Value → Shared → Prop}
    (hh : A.handled = none) (hclos : closureFor scope env = pure cl) (hcell : ∀ y ∈ scope.names, y.2 ≠ .cell) (hkind : scope.kind = .function)
    (hnames : ∀ y ∈ scope.names, y.2 = .local → scope.names.lookup y.1 = some .local) (hx : scope.names.lookup x = some .local)
    (h : wpAny (model prog w) A (eval iter env) (fun xv s₁ => Hold (CRArg prog w A elt scope cl env x Q xv s₁)) E s)
    (hs : ∀ x, foldedSetIterable iter env x = pure x := by intro _; rfl) :
    wpAny (model prog w) A (eval (.ListComp elt [⟨.Name x px, iter, [], 0⟩] scope pos) env) Q E s := by
  refine comp_inv hclos hcell hkind hnames (wpAny_mono h (fun xv s₁ h₁ => ?_) fun _ _ e => e) hs
  obtain ⟨l, n, t, u, v, rfl, hl, hn, h₁⟩ := h₁
  obtain ⟨mu, Inv, hmu, hinv, hframe, helt, hQ⟩ := h₁ _ _ rfl rfl
  refine wpAny_pyIter_range hl (small_one (by decide) (by decide) (by omega) (by omega)) ?_
  have hsz : Builtin.Range.rangeSize 0 (n : Nat) 1 = (n : Nat) := by
    rw [rangeSize_one]; split <;> omega
  rw [hsz]
  refine ⟨rfl, CompI.ofK (mu := mu) (Inv := Inv) (Tgt := fun i v m => ∃ t, v = .int (i : Nat) t ∧ m x = some v) rfl (Walks.range hh _ 0 1 n) (by rw [sizeLine]; omega) ?_ (fun b hb => ?_) (fun b hb => ⟨fun hm => ?_, hmu b hb⟩) hinv ?_ hframe ?_ ?_, FinV.ofK rfl hQ⟩
  · have := Heap.get?_push_size s₁.heap (o := { cls := .type "range_iterator", data := .fields #[rawInt 0, rawInt ((n : Nat) : Int), rawInt 1] }) rfl
    simpa [IsRangeIter] using this
  · rw [List.mem_singleton.mp hb]; exact Nat.le_refl _
  · rw [List.mem_singleton.mp hm] at hb
    exact Nat.lt_irrefl _ (hmu _ hb)
  · rintro i h hoi
    exact ⟨_, hoi, not_soft_fields rfl⟩
  · rintro i v s₃ m₃ Q' ⟨t', rfl⟩ hns hst hk hq
    refine wpAny_of_eq rfl ?_
    rw [show (0 : Int) + (i : Nat) * 1 = (i : Nat) by omega] at *
    refine wpAny_assign_Name (wpAny_storeName_local (lookup_relabel_local hx) hns (fun h₂ hn₂ hs₂ => ?_) (by simp [compEnvC, relabel, hkind]))
    exact hq h₂ _ _ hn₂ ⟨t', rfl, by simp⟩ fun b o hb e => hs₂.extBut b o hb e
  · rintro i v ys s₃ m₃ hlt hP hinv' hns ⟨t', rfl, ht⟩ hsz' hlv hk
    exact helt i t' ys s₃.heap s₃.gens s₃.drawn s₃.toks s₃.os m₃ hlt hinv' hns ht hsz' hlv hk
end
section
variable {prog : Program} {w : World} {A : Around} {E : Value → Shared → Prop} {s : Shared} {env : Env}
/-- over a list of pairs, as a statement: the store comes before the block's names go -/
def FinA (env : Env) (y : Str) (Q : Flow → Shared → Prop) (s₁ : Shared) (vs : Array Value) (hh : Heap) (K : Addr) (Inv : Nat → List Value → Heap → Prop) : Prop :=
  ∀ h' (tk : Nat) ys, h'.PlainList (K + 1) ys → ys.size = vs.size → Inv vs.size ys.toList h' → (∀ b o, hh.get? b = some o → h'.get? b = some o) → (∃ m', h'.Ns (K + 2) m') → ∃ m, h'.Ns env.locals m ∧ env.locals ≠ K + 2 ∧ ∀ h'' tk', h''.Ns env.locals (fun z => if z = y then some (.ref (K + 1)) else m z) → (∀ b o, b ≠ env.locals → b ≠ K + 2 → h'.get? b = some o → h''.get? b = some o) → Q .next { s₁ with heap := h'', toks := tk' }
theorem comp_pairs_as {elt iter : Expr} {y : Str} {py spos : Pos} {x x2 : Str} {px px2 pt : Pos} {kk : Nat} {scope : Scope} {cl : List (Str × Addr)} {pos : Pos} {Q : Flow → Shared → Prop}
    (hsw : swapsWith (.ListComp elt [⟨.Tuple [.Name x px, .Name x2 px2] kk pt, iter, [], 0⟩] scope pos) (some (.Name y py)) spos.line env = pure true) (hy : env.kindOf y = some .local) (hp : (env.scope.kind == .class || (env.scope.kind == .module && env.locals != env.globals)) = false)
    (hh : A.handled = none) (hclos : closureFor scope env = pure cl) (hcell : ∀ y ∈ scope.names, y.2 ≠ .cell) (hkind : scope.kind = .function)
    (hnames : ∀ y ∈ scope.names, y.2 = .local → scope.names.lookup y.1 = some .local) (hx : scope.names.lookup x = some .local) (hx2 : scope.names.lookup x2 = some .local) (hxx : (x == x2) = false)
    (h : wpAny (model prog w) A (eval iter env) (fun xv s₁ => Hold (CPArg prog w A elt scope cl env x x2 (FinA env y Q) xv s₁)) E s)
    (hs : ∀ x, foldedSetIterable iter env x = pure x := by intro _; rfl) :
    wpAny (model prog w) A (exec (.Assign [.Name y py] (.ListComp elt [⟨.Tuple [.Name x px, .Name x2 px2] kk pt, iter, [], 0⟩] scope pos) spos) env) Q E s := by
  rw [exec_Assign_Name_used _ _ _ _ hsw]
  refine wpAny_bind (wpAny_standAt (wpAny_bind ?_))
  show wpAny _ A (do let _ ← comprehension (.ListComp elt [⟨.Tuple [.Name x px, .Name x2 px2] kk pt, iter, [], 0⟩] scope pos) scope env _ (newList []) false (eval iter env) (some (assign (.Name y py) env))) _ _ s
  refine wpAny_bind (wpAny_mono (wpAny_comprehension_free (use := some (assign (.Name y py) env)) (Q := fun _ s' => Q .next s') rfl hs hclos hkind hnames
    (wpAny_mono h (fun xv s₁ h₁ => ?_) fun _ _ e => e)) (fun _ s' hq => wpAny_pure (wpAny_pure hq)) fun _ _ e => e)
  obtain ⟨l, vs, rfl, hl, hsz, htup, h₁⟩ := h₁
  obtain ⟨Inv, hinv, hframe, helt, hQ⟩ := h₁ _ _ rfl rfl
  refine wpAny_pyIter_list hl ?_
  refine comp_core (pairs_compI (Fin := FinA env y Q s₁ vs s₁.heap s₁.heap.objs.size) hh hkind hx hx2 hxx hl hsz htup hinv hframe helt) hcell hkind fun h' tk ys m' a b c d hnC => ?_
  obtain ⟨m, hm, hLC, hfin⟩ := hQ h' tk ys a b c (fun b o e => d b o (fun hm => Nat.ne_of_lt (Heap.lt_size e) (List.mem_singleton.mp hm)) List.not_mem_nil (Heap.get?_push_of_some _ e)) ⟨_, hnC⟩
  show wpAny _ A (assign (.Name y py) env (.ref (s₁.heap.objs.size + 1))) _ _ _
  refine wpAny_assign_Name (wpAny_storeName_local hy hm (fun h₃ hn₃ hs₃ => ?_) hp)
  refine ⟨m', hnC.sameBut hs₃ (Ne.symm hLC), fun h'' hs'' => ?_⟩
  exact hfin h'' _ (hn₃.sameBut hs'' hLC) fun b o h1 h2 e => hs''.extBut b o h2 (hs₃.extBut b o h1 e)
end
/-- the tape: row and the count of reads -/
abbrev tapeK (row : Addr) (r : Int) (t : Tok) : List (Str × Value) := [(Str.ofString "row", .ref row), (Str.ofString "read", .int r t)]
def AllInt (vs : Array Value) : Prop := ∀ (i : Nat) (v : Value), vs[i]? = some v → ∃ n t, v = .int n t
section
variable {prog : Program} {w : World} {A : Around} {E : Value → Shared → Prop} {s : Shared} {env : Env}
/-- an item of a list of the base, at an int -/
theorem sub_listZ {value slice : PySem.Expr} {h₀ : Heap} {L l : Addr} {m : Str → Option Value} {vs : Array Value} {k : Int} {t : Tok} {v : Value} {Q : Value → Shared → Prop} (F : Fr h₀ L s.heap m) (hl : h₀.PlainList l vs) (hv : vs[k.toNat]? = some v) (h0 : 0 ≤ k) (hi : k < 1000) (h : Q v s)
    (hs : subscripted slice false (.ref l) (.int k t) = operate [.ref l, .int k t] (getItem (.ref l) (.int k t)) := by with_unfolding_all rfl) :
    wpAny (model prog w) A (subscriptTail value slice (.ref l) (.int k t)) Q E s := by
  have hl' : s.heap.IsList l vs := hl.isList.at fun o e => F.keep _ _ e
  exact tail_any hl'.typeIs PySem.slot_list_getitem.lookup (wpAny_getItem_list hl' h0 (by omega) (by simpa using hv) h) hs
end
section
theorem lines_Tape_1 : True := by
  k_with "subscriptTail" => (k_here; (with_reducible show wpAny _ _ (subscriptTail (PySem.Expr.Subscript _ _ _) _ (Value.ref _) (Value.int _ _)) _ _ _); refine hold ?_)
  trivial
variable {w : World} {dp un : Nat} {fr : Option (List Env)} {gd : Option (List Code)} {E : Value → Shared → Prop} {s : Shared} {Q : Value → Shared → Prop} {mean : ExcName → Option Value} {mg mb : Str → Option Value}
set_option maxHeartbeats 800000 in
theorem slot_ok {hw : Heap} (X : (hd.heap_39 w.params).In hw) (T : Top hd.view_39 (looseW hd.view_39 []) mean mg mb hw) (hws : hw.StaysIn s.heap) (hdep : dp + 2 < recursionLimit) {tape row : Addr} {o : Obj} {r : Int} {t : Tok} {vs : Array Value}
    (h0 : hw.get? tape = none) (ht : s.heap.get? tape = some o) (hd1 : o.IsDictOf (PySem.strKind PySem.Challenge.rw_xw0007_01.prog w) (tapeK row r t)) (hrow : s.heap.PlainList row vs) (hsz : vs.size ≤ 100) (hI : AllInt vs) (hr0 : 0 ≤ r) (hr1 : r ≤ 1000) {ways : Int} {tw : Tok} (hw0 : 0 < ways) (hw1 : ways ≤ 9)
    (hQ : ∀ h' tk o' v t' t2, (∀ b o, b ≠ tape → s.heap.get? b = some o → h'.get? b = some o) → h'.get? tape = some o' → o'.IsDictOf (PySem.strKind PySem.Challenge.rw_xw0007_01.prog w) (tapeK row (r + 1) t2) → 0 ≤ v → v < ways → Q (.int v t') { s with heap := h', toks := tk }) :
    wpAny (model PySem.Challenge.rw_xw0007_01.prog w) (Ar dp un fr gd) (call (.ref 623) [.ref tape, .int ways tw]) Q E s := by
  have hb0 : (hideAll s.heap [tape]).StaysIn s.heap := fun x o e => of_hideAll _ e
  have hin : ∀ b o, s.heap.get? b = some o → b ≠ tape → (hideAll s.heap [tape]).get? b = some o := fun b o e hx => hideAll_get _ e (by simpa using hx)
  have hout : (hideAll s.heap [tape]).get? tape = none := hideAll_none _ (by simp)
  have hsz0 : (hideAll s.heap [tape]).objs.size = s.heap.objs.size := hideAll_size _ _
  generalize hideAll s.heap [tape] = hb at hb0 hin hout hsz0
  have hwb : hw.StaysIn hb := fun b o e => hin b o (hws _ _ e) fun hm => by rw [hm, h0] at e; cases e
  have hne : row ≠ tape := fun q => by
    obtain ⟨n, e⟩ := hrow
    rw [q, ht] at e; cases e
    obtain ⟨_, _, _, hd, _⟩ := hd1
    cases hd
  have hrow0 : hb.PlainList row vs := hrow.at fun o e => hin _ _ e hne
  have hrow1 := hrow0.isList
  have hsz1 : vs.size ≤ sizeLine := by rw [sizeLine]; omega
  have X0 := X.keeps hwb
  have T0 := T.keeps hwb
  clear X T
  refine' enterG [(Str.ofString "tape", .ref tape), (Str.ofString "ways", .int ways tw)] hb0 (Nat.le_of_eq hsz0) (news := [(tape, o)]) (fun p hp => by simp only [List.mem_cons, List.not_mem_nil, or_false] at hp; subst hp; exact ⟨ht, hout⟩) X0 T0.nolimit (by omega) ?ho ?hcd ?hb ?hl ?hc ?h1 ?h2 ?h3 ?_
  case ho => k_is
  case hcd => k_is
  case hb => exact BindsTo.of_eq rfl
  case hl => exact locs rfl
  case hc => decide
  case h1 => rfl
  case h2 => rfl
  case h3 => rfl
  intro L h₁ hL hk1 F N
  k_fold
  k_steps
  · with_reducible rename Fr _ _ _ _ => F2
    with_reducible rename News _ _ _ _ => N2
    dsimp only
    exact hQ _ _ _ _ _ _ (fun b o hb e => F2.keep _ _ (hin b o e hb)) (N2 _ (.head _)).1 (by assumption) (Int.fmod_nonneg_of_pos _ hw0) (Int.fmod_lt_of_pos _ hw0)
  · with_reducible rename Fr _ _ _ _ => F2
    with_reducible rename News _ _ _ _ => N2
    obtain ⟨v, hv⟩ : ∃ v, vs[(r + 1 - 1).toNat]? = some v := ⟨_, Array.getElem?_eq_getElem (by omega)⟩
    obtain ⟨i, ti, rfl⟩ := hI _ _ hv
    apply unhold
    refine sub_listZ F2 hrow0 hv (by omega) (by omega) ?_
    k_steps
    dsimp only
    exact hQ _ _ _ _ _ _ (fun b o hb e => F2.keep _ _ (hin b o e hb)) (N2 _ (.head _)).1 (by assumption) (Int.fmod_nonneg_of_pos _ hw0) (Int.fmod_lt_of_pos _ hw0)
end
theorem lines_Tape_2 : True := by
  k_with_none
  k_with "eval ListComp" => (refine hold ?_)
  k_with "exec For" => (refine hold ?_)
  k_with "exec For Name Attribute cons nil" => (refine hold ?_)
  k_with "exec For Name Name cons nil" => (refine hold ?_)
  k_with "exec For Name Call cons nil" => (refine hold ?_)
  k_with "exec For Tuple Name cons nil" => (refine hold ?_)
  k_with "getAttr ref" => (k_here; k_dflt (refine' get_has (by k_asm) (by k_asm) (by with_reducible assumption) (by k_is) (by k_is) (by k_is) (by k_is) (by exact rfl) ?_; k_whole))
  k_with "my comp" => (
  (case hh => rfl); (case hclos => exact closureFor_none (by decide)); (case hcell => decide); (case hkind => rfl); (case hnames => decide); (case hx => rfl); (case hs => intro x; rfl))
  k_with "my room" => first | omega | (dsimp only [Around.deeper, Around.in1]; omega)
  k_with "call ref" => (refine hold ?_)
  k_with "subscriptTail" => (k_here; (with_reducible show wpAny _ _ (subscriptTail _ _ (Value.ref _) (Value.str _ _)) _ _ _); k_dflt (refine' sub_dict (by k_asm) (by with_reducible assumption) (by with_reducible assumption) ?_; k_whole))
  k_with "subscriptTail" => (k_here; (with_reducible show wpAny _ _ (subscriptTail _ _ (Value.ref _) (Value.str _ _)) _ _ _); k_dflt (refine' sub_dictN (by k_asm) (by first | k_mem | (simp; done)) (by with_reducible assumption) (by with_reducible assumption) ?_; k_whole))
  k_with "exec Raise some none" => (k_here; (with_reducible show wpAny _ _ (exec (Stmt.Raise (some _) none _) _) _ _ _); refine raise_obj rfl ?_)
  k_with "my pairs" => (
  (case hh => rfl); (case hclos => exact closureFor_none (by decide)); (case hcell => decide); (case hkind => rfl); (case hnames => decide); (case hx => rfl); (case hx2 => rfl); (case hxx => decide); (case hs => intro x; rfl))
  k_with "subscriptTail" => (k_here; (with_reducible show wpAny _ _ (subscriptTail _ _ (Value.ref _) (Value.int _ _)) _ _ _); k_dflt (refine' sub_list (by k_asm) (by with_reducible assumption) (by with_reducible assumption) (by omega) ?_; k_whole))
  k_with "call type:range" => (refine hold ?_)
  k_with "my look" => first | with_reducible assumption | (simp +decide only [↓reduceIte]; with_reducible assumption)
  k_with "eval Name" => (k_here; (fail_if_success (with_reducible show wpAny _ _ (eval _ (compEnvC _ _ _ _)) _ _ _)); k_dflt (refine' ld (by k_asm) (by walk_at "my look") ?_; k_whole))
  k_with "exec" => (k_here; (with_reducible show wpAny _ _ (exec (Stmt.While _ _ [] _) _) _ _ _); refine while_out ?_)
  k_with "isTrue UnaryOp" => (k_here; (refine isTrue_not ?_); k_dflt (refine isTrue_plain ?_; refine Call_ ?_))
  k_with "exec Try" => (k_here; refine wpAny_Try_except ?_)
  trivial
/-- the datum of a member -/
def targetD (seed : Int) : D := if seed % 3 = 2 then .none else .cell (if seed % 2 = 0 then 1 else 2)
def memberD (seed : Int) : Bool → D
  | false => .int (3 * seed + 1)
  | true => .recd 93 [(Str.ofString "n", .int seed), (Str.ofString "r", .arr [(1, 2)] [.int (seed + 20), .int 5]), (Str.ofString "p", targetD seed), (Str.ofString "d", .recd 91 [(Str.ofString "k", .arr [(1, 2)] [.int seed, .int 7])])]
theorem lies_past {prog : Program} {w : World} {Z : Addr → Prop} {n : Nat} {S : List Addr} {v : Value} {d : D} {h₀ h h' : Heap} {L : Addr} {m : Str → Option Value} (F : Fr h₀ L h m) (kb : ∀ b o, h.get? b = some o → b ≠ L → h'.get? b = some o) (hS : L ∉ S) (hZ : ¬ Z L) (x : Lies prog w h Z n S v d) : Lies prog w h' Z n S v d :=
  x.move (fun _ q => q) fun b o e hb => kb b o e fun q => by
    subst q
    rcases hb with hb | hb | hb
    · exact hS hb
    · exact hZ hb
    · exact not_soft_ns F.ns e hb
theorem lies_int {prog : Program} {w : World} {h : Heap} {Z : Addr → Prop} {n : Nat} {i : Int} {t : Tok} : Lies prog w h Z n [] (.int i t) (.int i) := by
  cases n <;> exact ⟨rfl, _, rfl⟩
/-- an array of one index of two, made of what stands -/
theorem arr_of {prog : Program} {w : World} {h h' : Heap} {Z : Addr → Prop} {n : Nat} {a dx b l p : Addr} {i j : Int} {t1 t2 t3 t4 : Tok} {n1 n2 n3 : Nat} (T : Two h h' 131 (Str.ofString "bounds") (Str.ofString "items") (.ref b) (.ref l) a dx)
    (hp : h.get? p = some { cls := .type "tuple", data := .seq #[.int 1 t1, .int 2 t2] n1 }) (hb : h.get? b = some (W.listOf #[.ref p] n2)) (hl : h.get? l = some (W.listOf #[.int i t3, .int j t4] n3)) : Lies prog w h' Z (n + 1) [dx, b, l] (.ref a) (.arr [(1, 2)] [.int i, .int j]) := by
  obtain ⟨k, _, H1, H2⟩ := T
  exact ⟨a, dx, b, l, _, [], rfl, rfl, H1, H2, ⟨_, ⟨_, k _ _ hb⟩, ⟨⟨p, t1, t2, n1, rfl, k _ _ hp⟩, trivial⟩⟩, ⟨_, k _ _ hl⟩, ⟨[], [], rfl, lies_int, [], [], rfl, lies_int, rfl⟩, by simp, by simp⟩
theorem rec_of {prog : Program} {w : World} {h h' : Heap} {Z : Addr → Prop} {n : Nat} {a dx fd ty tdx : Addr} {num : Int} {tk : Tok} {kvs : List (Str × Value)} {fs : List (Str × D)} {S' : List Addr} (T : Two h h' 152 (Str.ofString "type") (Str.ofString "fields") (.ref ty) (.ref fd) a dx)
    (Hn : Has h ty tdx 229 (Str.ofString "number") (.int num tk)) (hZ : Z tdx) (hd : h.DictOf (PySem.strKind prog w) fd kvs) (hk : kvs.map (·.1) = fs.map (·.1)) (r : LiesL (Lies prog w h Z n) S' (kvs.map (·.2)) (fs.map (·.2))) (hl : fs.length ≤ 20) (hs : (fd == sysModules) = false) (hok : (fs.map (·.1)).all PyData.strOk = true) :
    Lies prog w h' Z (n + 1) (dx :: fd :: S') (.ref a) (.recd num fs) := by
  obtain ⟨k, _, H1, H2⟩ := T
  exact ⟨a, dx, fd, ty, tdx, tk, kvs, S', rfl, rfl, H1, H2, Hn.stays k, hZ, dictOf_at hd (fun o e => k _ _ e), hk, r.stays k, hl, hs, hok⟩
/-- where an array that was made lies -/
theorem arr_apart {prog : Program} {w : World} {h₀ h h' : Heap} {L : Addr} {m : Str → Option Value} {l lb d a dx C : Addr} {op od : Obj} {p : Addr} {v1 v2 u1 u2 u3 : Value} {n1 n2 : Str} {k1 k2 : Nat} {rest : List (Addr × Obj)} {kvs : List (Str × Value)} (F : Fr h₀ L h m)
    (N : News h₀ L h ((l, W.listOf #[u1, u2] k1) :: (lb, W.listOf #[u3] k2) :: (p, op) :: (d, od) :: rest)) (hd : od.IsDictOf (PySem.strKind prog w) kvs) (T : Two h h' C n1 n2 v1 v2 a dx) :
    (∀ x ∈ [dx, lb, l], x ≠ L ∧ x ≠ d ∧ h₀.get? x = none) ∧ [dx, lb, l].Nodup := by
  obtain ⟨_, hx, _, _⟩ := T
  obtain ⟨eL, aL, bL⟩ := N (l, W.listOf #[u1, u2] k1) (.head _)
  obtain ⟨eB, aB, bB⟩ := N (lb, W.listOf #[u3] k2) (.tail _ (.head _))
  obtain ⟨eD, aD, bD⟩ := N (d, od) (.tail _ (.tail _ (.tail _ (.head _))))
  obtain ⟨es, ep, _, hdd, _⟩ := hd
  obtain ⟨oF, _, _, hF, _⟩ := F.ns
  dsimp only at eL eB eD aL aB aD bL bB bD
  have nl : ∀ x xs k, h.get? x = some (W.listOf xs k) → x ≠ d := fun x xs k e q => by
    rw [q, eD] at e
    injection e with e
    rw [e] at hdd; cases hdd
  have hlb : lb ≠ l := fun q => by
    rw [q, eL] at eB
    injection eB with e
    injection e with _ _ e
    injection e with e
    have := congrArg Array.size e
    simp at this
  refine ⟨fun x hx' => ?_, ?_⟩
  · simp only [List.mem_cons, List.not_mem_nil, or_false] at hx'
    rcases hx' with rfl | rfl | rfl
    · exact ⟨(fresh_ne hF hx).symm, (fresh_ne eD hx).symm, stays_none F.keep hx⟩
    · exact ⟨aB, nl _ _ _ eB, bB⟩
    · exact ⟨aL, nl _ _ _ eL, bL⟩
  · simp only [List.nodup_cons, List.mem_cons, List.not_mem_nil, or_false, not_or, not_false_eq_true, List.nodup_nil, and_true]
    exact ⟨⟨(fresh_ne eB hx).symm, (fresh_ne eL hx).symm⟩, hlb⟩
theorem arr_order {h₀ h : Heap} {L l lb p d : Addr} {o1 o2 o3 od : Obj} {gl : List (Addr × Obj)} (_ : News h₀ L h ((l, o1) :: (lb, o2) :: (p, o3) :: (d, od) :: gl)) (h1 : ∀ q ∈ gl, @LT.lt Nat _ q.1 d) (h2 : @LT.lt Nat _ p lb ∧ @LT.lt Nat _ d lb ∧ AllLt lb gl) (h3 : @LT.lt Nat _ lb l ∧ @LT.lt Nat _ p l ∧ @LT.lt Nat _ d l ∧ AllLt l gl) :
    ∀ q ∈ gl, q.1 ≠ d ∧ q.1 ≠ lb ∧ q.1 ≠ l := fun q hq => by
  have a1 := h1 q hq
  have a2 := ktn_ltOf h2.2.2 q hq
  have a3 := ktn_ltOf h3.2.2.2 q hq
  exact ⟨Nat.ne_of_lt a1, Nat.ne_of_lt a2, Nat.ne_of_lt a3⟩
/-- as snapAll; what was made since the base is in it -/
theorem snapM {h₀ h : Heap} {L : Addr} {m : Str → Option Value} (F : Fr h₀ L h m) : ∃ gl, News h₀ L h gl ∧ (∀ h' m', Fr h₀ L h' m' → News h₀ L h' gl → ∀ b o, h.get? b = some o → b ≠ L → h'.get? b = some o) ∧ ∀ b o, h.get? b = some o → b ≠ L → h₀.get? b = none → (b, o) ∈ gl := by
  classical
  obtain ⟨gl, a, c⟩ := snapAll F
  let f : Nat → Option (Addr × Obj) := fun b => match h.get? b with
    | some o => if h₀.get? b = none ∧ b ≠ L then some (b, o) else none
    | none => none
  refine ⟨(List.range h.objs.size).filterMap f, fun p hp => ?_, fun h' m' F' N' b o e hL => ?_, fun b o e hL h0 => ?_⟩
  · obtain ⟨b, _, hb⟩ := List.mem_filterMap.mp hp
    simp only [f] at hb
    split at hb
    · rename_i o ho
      split at hb
      · rename_i hc
        cases hb
        exact ⟨ho, hc.2, hc.1⟩
      · cases hb
    · cases hb
  · cases h0 : h₀.get? b with
    | some o' =>
      have := F.keep b o' h0
      rw [e] at this; cases this
      exact F'.keep b o h0
    | none =>
      have : f b = some (b, o) := by
        simp only [f, e]
        rw [if_pos ⟨h0, hL⟩]
      exact (N' (b, o) (List.mem_filterMap.mpr ⟨b, List.mem_range.mpr (Heap.lt_size e), this⟩)).1
  · have : f b = some (b, o) := by
      simp only [f, e]
      rw [if_pos ⟨h0, hL⟩]
    exact List.mem_filterMap.mpr ⟨b, List.mem_range.mpr (Heap.lt_size e), this⟩
theorem liesL4 {P : List Addr → Value → D → Prop} {v1 v2 v3 v4 : Value} {d1 d2 d3 d4 : D} {A B : List Addr} (h1 : P [] v1 d1) (h2 : P A v2 d2) (h3 : P [] v3 d3) (h4 : P B v4 d4) : LiesL P (A ++ B) [v1, v2, v3, v4] [d1, d2, d3, d4] :=
  ⟨[], A ++ B, rfl, h1, A, B, rfl, h2, [], B, rfl, h3, B, [], (List.append_nil B).symm, h4, rfl⟩
theorem ord_ne {gl : List (Addr × Obj)} {h₀ h : Heap} {L d lb l : Addr} {S : List Addr} (ord : ∀ q ∈ gl, q.1 ≠ d ∧ q.1 ≠ lb ∧ q.1 ≠ l) (hin : ∀ b o, h.get? b = some o → b ≠ L → h₀.get? b = none → (b, o) ∈ gl) (live : ∀ y ∈ S, ∃ o, h.get? y = some o) (hS : ∀ x ∈ S, x ≠ L ∧ h₀.get? x = none) :
    ∀ x ∈ S, x ≠ d ∧ x ≠ lb ∧ x ≠ l := fun x hx => by
  obtain ⟨o, e⟩ := live x hx
  exact ord _ (hin x o e (hS x hx).1 (hS x hx).2)
theorem zz_of {h : Heap} {Z : Addr → Prop} {L d : Addr} (hZ : ∀ x, Z x → ∃ o, h.get? x = some o) (h1 : h.get? L = none) (h2 : h.get? d = none) : ∀ x, Z x → x ≠ L ∧ x ≠ d := fun x hx => let ⟨_, e⟩ := hZ x hx; ⟨fresh_ne e h1, fresh_ne e h2⟩
theorem lies_target {prog : Program} {w : World} {h : Heap} {Z : Addr → Prop} {n : Nat} {v : Value} {seed : Int} : Lies prog w h Z 0 [] v (targetD seed) → Lies prog w h Z n [] v (targetD seed) := by
  unfold targetD
  split
  · cases n <;> exact id
  · cases n <;> exact id
/-- a statement whose ways meet -/
theorem flow_join {M : Model} {A : Around} {st : Stmt} {env : Env} {Q : Flow → Shared → Prop} {E : Value → Shared → Prop} {s : Shared} (J : Shared → Prop) (h1 : wpAny M A (exec st env) (fun f s' => Hold (f = .next ∧ J s')) E s) (h2 : ∀ s', J s' → Q .next s') : wpAny M A (exec st env) Q E s :=
  wpAny_mono h1 (fun f s' ⟨e, j⟩ => e ▸ h2 s' j) fun _ _ e => e
theorem rec_apart {h₀ h h' : Heap} {L : Addr} {m : Str → Option Value} {a dx C fd : Addr} {od : Obj} {v1 v2 : Value} {n1 n2 : Str} {S : List Addr} (F : Fr h₀ L h m) (hfd : fd ≠ L) (h0fd : h₀.get? fd = none) (ed : h.get? fd = some od) (T : Two h h' C n1 n2 v1 v2 a dx)
    (hS : ∀ x ∈ S, x ≠ L ∧ x ≠ fd ∧ h₀.get? x = none) (nd : S.Nodup) (live : ∀ x ∈ S, ∃ o, h.get? x = some o) : (∀ x ∈ dx :: fd :: S, x ≠ L ∧ h₀.get? x = none) ∧ (dx :: fd :: S).Nodup := by
  obtain ⟨_, hx, _, _⟩ := T
  obtain ⟨oF, _, _, hF, _⟩ := F.ns
  refine ⟨fun x hm => ?_, List.nodup_cons.mpr ⟨fun hm => ?_, List.nodup_cons.mpr ⟨fun hm => (hS _ hm).2.1 rfl, nd⟩⟩⟩
  · rcases List.mem_cons.mp hm with rfl | hm
    · exact ⟨(fresh_ne hF hx).symm, stays_none F.keep hx⟩
    · rcases List.mem_cons.mp hm with rfl | hm
      · exact ⟨hfd, h0fd⟩
      · exact ⟨(hS x hm).1, (hS x hm).2.2⟩
  · rcases List.mem_cons.mp hm with q | hm
    · exact fresh_ne ed hx q.symm
    · obtain ⟨o, e⟩ := live _ hm
      exact fresh_ne e hx rfl
theorem lies_past2 {prog : Program} {w : World} {Z : Addr → Prop} {n : Nat} {S : List Addr} {v : Value} {d : D} {h₀ h h' : Heap} {L fd : Addr} {od : Obj} {m : Str → Option Value} {kvs : List (Str × Value)} (F : Fr h₀ L h m) (kb : ∀ b o, h.get? b = some o → b ≠ L → b ≠ fd → h'.get? b = some o) (hS : ∀ x ∈ S, x ≠ L ∧ x ≠ fd) (hZ : ∀ x, Z x → x ≠ L ∧ x ≠ fd)
    (e : h.get? fd = some od) (hd : od.IsDictOf (PySem.strKind prog w) kvs) (x : Lies prog w h Z n S v d) : Lies prog w h' Z n S v d :=
  x.move (fun _ q => q) fun b o eb hb => kb b o eb (fun q => by
    subst q
    rcases hb with hb | hb | hb
    · exact (hS _ hb).1 rfl
    · exact (hZ _ hb).1 rfl
    · exact not_soft_ns F.ns eb hb) (fun q => by
    subst q
    rcases hb with hb | hb | hb
    · exact (hS _ hb).2 rfl
    · exact (hZ _ hb).2 rfl
    · rw [eb] at e; cases e
      obtain ⟨es, ep, _, hdd, _⟩ := hd
      exact not_soft_dict hdd hb)
section
theorem lines_Member_1 : True := by
  k_with "exec Assign" => (k_here; (with_reducible show wpAny _ _ (exec (Stmt.Assign [_] (PySem.Expr.IfExp _ _ _ _) _) _) _ _ _); refine hold ?_)
  trivial
theorem lines_Member_2 : True := by
  k_with "subscriptTail" => (k_here; (with_reducible show wpAny _ _ (subscriptTail (PySem.Expr.Name _ _) _ (Value.ref _) (Value.int _ _)) _ _ _); refine hold ?_)
  trivial
local macro_rules | `(tactic| k_all) => `(tactic| with_reducible assumption)
local macro_rules | `(tactic| k_ne) => `(tactic| with_reducible assumption)
variable {w : World} {dp un : Nat} {fr : Option (List Env)} {gd : Option (List Code)} {E : Value → Shared → Prop} {s : Shared} {Q : Value → Shared → Prop} {mean : ExcName → Option Value} {mg mb : Str → Option Value}
theorem member_int (X : (hd.heap_39 w.params).In s.heap) (T : Top hd.view_39 (looseW hd.view_39 []) mean mg mb s.heap) (hdep : dp + 4 < recursionLimit) {deep part cells : Value} {seed : Int} {t : Tok} (h0 : 0 ≤ seed) (h1 : seed ≤ 100)
    (hQ : ∀ h' tk t, s.heap.StaysIn h' → Q (.int (3 * seed + 1) t) { s with heap := h', toks := tk }) :
    wpAny (model PySem.Challenge.rw_xw0007_01.prog w) (Ar dp un fr gd) (call (.ref 647) [deep, part, .int seed t, .bool false, cells]) Q E s := by
  refine' enter [(Str.ofString "deep", deep), (Str.ofString "part", part), (Str.ofString "seed", .int seed t), (Str.ofString "is_record", .bool false), (Str.ofString "cells", cells)] X T.nolimit (by omega) ?ho ?hcd ?hb ?hl ?hc ?h1 ?h2 ?h3 ?_
  case ho => k_is
  case hcd => k_is
  case hb => exact BindsTo.of_eq rfl
  case hl => exact locs rfl
  case hc => decide
  case h1 => rfl
  case h2 => rfl
  case h3 => rfl
  intro L h₁ hL F N
  k_fold
  k_steps
  dsimp only
  exact hQ _ _ _ F.keep
theorem member_rec {Z : Addr → Prop} (X : (hd.heap_39 w.params).In s.heap) (T : Top hd.view_39 (looseW hd.view_39 []) mean mg mb s.heap) (hdep : dp + 4 < recursionLimit) {deep ddx part pdx cells c1 c2 d1 d2 : Addr} {t1 t2 t3 t4 : Tok} {seed : Int} {t : Tok} (h0 : 0 ≤ seed) (h1 : seed ≤ 100)
    (H1 : Has s.heap deep ddx 229 (Str.ofString "number") (.int 91 t1)) (H2 : Has s.heap part pdx 229 (Str.ofString "number") (.int 93 t2)) (H3 : s.heap.PlainList cells #[.ref c1, .ref c2]) (H4 : Has s.heap c1 d1 110 (Str.ofString "number") (.int 1 t3)) (H5 : Has s.heap c2 d2 110 (Str.ofString "number") (.int 2 t4))
    (hz : ∀ x, Z x ↔ x = ddx ∨ x = pdx ∨ x = d1 ∨ x = d2)
    (hQ : ∀ h' tk v' S', s.heap.StaysIn h' → Lies PySem.Challenge.rw_xw0007_01.prog w h' Z 3 S' v' (memberD seed true) → (∀ x ∈ S', s.heap.get? x = none) → S'.Nodup → Q v' { s with heap := h', toks := tk }) :
    wpAny (model PySem.Challenge.rw_xw0007_01.prog w) (Ar dp un fr gd) (call (.ref 647) [.ref deep, .ref part, .int seed t, .bool true, .ref cells]) Q E s := by
  have H3' := H3.isList
  refine' enter [(Str.ofString "deep", .ref deep), (Str.ofString "part", .ref part), (Str.ofString "seed", .int seed t), (Str.ofString "is_record", .bool true), (Str.ofString "cells", .ref cells)] X T.nolimit (by omega) ?ho ?hcd ?hb ?hl ?hc ?h1 ?h2 ?h3 ?_
  case ho => k_is
  case hcd => k_is
  case hb => exact BindsTo.of_eq rfl
  case hl => exact locs rfl
  case hc => decide
  case h1 => rfl
  case h2 => rfl
  case h3 => rfl
  intro L h₁ hL F N
  k_fold
  k_steps
  apply unhold
  with_reducible rename Fr _ _ _ _ => F2
  with_reducible rename News _ _ _ _ => N2
  have hdk := ‹Obj.IsDictOf _ _ _›
  refine new_array (X.keeps F2.keep) (T.keeps F2.keep) (by walk_at "my room") fun h4 tk4 a4 dx4 Tw => ?_
  have A1 := arr_of (prog := PySem.Challenge.rw_xw0007_01.prog) (w := w) (Z := Z) (n := 0) Tw (N2 _ (.tail _ (.tail _ (.head _)))).1 (N2 _ (.tail _ (.head _))).1 (N2 _ (.head _)).1
  have F4 := Fr.keeps F2 Tw.1
  have N4 := News.grown (news_sub N2 (b := [_]) fun p hp => by rw [List.mem_singleton.mp hp]; exact .tail _ (.tail _ (.tail _ (.head _)))) Tw.1
  obtain ⟨gl, NG, hdis, back⟩ := snap F4 N4
  replace hdis := fun p hp => hdis p hp _ (.head _)
  replace NG : News s.heap L h4 (_ :: gl) := NG
  obtain ⟨hS4, nd4⟩ := arr_apart F2 N2 hdk Tw
  have hZL : ∀ x, Z x → ∃ o, s.heap.get? x = some o := fun x hx => by
    rcases (hz x).mp hx with rfl | rfl | rfl | rfl
    · exact H1.live
    · exact H2.live
    · exact H4.live
    · exact H5.live
  have hL0 : s.heap.get? L = none := Heap.get?_none_of_le F4.above
  have hd0 := (NG _ (.head _)).2.2
  have ed4 := (NG _ (.head _)).1
  have F4' := F4
  clear F2 N2 N4
  have F := F4
  have N := NG
  clear F4 NG
  dsimp only at hdis hd0 ed4
  k_steps
  apply unhold
  with_reducible rename Fr _ _ _ _ => F5
  with_reducible rename News _ _ _ _ => N5
  have hk5 := ‹Obj.IsDictOf _ _ _›
  have A5 := lies_past2 F4' (fun b o e h1 h2 => back _ _ F5 (news_sub N5 fun p hp => .tail _ hp) b o e h1 fun p hp q => by rw [List.mem_singleton.mp hp] at q; exact h2 q.symm) (fun x hx => ⟨(hS4 x hx).1, (hS4 x hx).2.1⟩) (fun x hx => let ⟨o, e⟩ := hZL x hx; ⟨fresh_ne e hL0, fresh_ne e hd0⟩) ed4 hdk A1
  have d5 := Heap.dictOf_iff.mpr ⟨_, (N5 _ (.head _)).1, hk5⟩
  have hdL := (N5 _ (.head _)).2.1
  refine new_record (X.keeps F5.keep) (T.keeps F5.keep) (by walk_at "my room") fun h6 tk6 a6 dx6 Tw6 => ?_
  have I6 := rec_of (num := 91) (n := 1) (fs := [(Str.ofString "k", .arr [(1, 2)] [.int seed, .int 7])]) Tw6 (H1.stays F5.keep) ((hz _).mpr (.inl rfl)) d5 rfl ⟨_, [], (List.append_nil _).symm, A5, rfl⟩ (by simp) (by assumption) (by kernel_rfl)
  have F6 := Fr.keeps F5 Tw6.1
  obtain ⟨hS6, nd6⟩ := rec_apart F5 hdL hd0 (N5 _ (.head _)).1 Tw6 hS4 nd4 A5.live
  obtain ⟨gl6, N6, back6, in6⟩ := snapM F6
  have F6h : Hold _ := unhold F6
  have F := F6
  clear F6
  clear N5 F5
  k_steps
  apply unhold
  refine flow_join (fun s' => ∃ h' tk tv m', s' = ⟨h', s.gens, s.drawn, tk, s.os⟩ ∧ Fr s.heap L h' m' ∧ News s.heap L h' gl6 ∧ Lies PySem.Challenge.rw_xw0007_01.prog w s.heap Z 0 [] tv (targetD seed) ∧ m' (Str.ofString "target") = some tv ∧ m' (Str.ofString "inner") = some (.ref a6) ∧ m' (Str.ofString "part") = some (.ref part) ∧ m' (Str.ofString "seed") = some (.int seed t)) ?_ ?_
  · refine wpAny_Assign_Name ?_
    k_steps
    · with_reducible rename Fr _ _ _ _ => F7
      with_reducible rename News _ _ _ _ => N7
      refine ⟨rfl, _, _, .none, _, rfl, F7, N7, ?_, by simp +decide only [↓reduceIte], by simp +decide only [↓reduceIte], by simp +decide only [↓reduceIte]; rfl, by simp +decide only [↓reduceIte]; rfl⟩
      have h3 : seed % 3 = 2 := by
        have := ‹seed.fmod 3 = 2›
        rwa [Int.fmod_eq_emod_of_nonneg _ (by decide)] at this
      rw [targetD, if_pos h3]
      exact ⟨rfl, rfl⟩
    · with_reducible rename Fr _ _ _ _ => F7
      with_reducible rename News _ _ _ _ => N7
      have h3 : ¬ seed % 3 = 2 := by
        have := ‹¬ seed.fmod 3 = 2›
        rwa [Int.fmod_eq_emod_of_nonneg _ (by decide)] at this
      apply unhold
      rw [targetD, if_neg h3]
      by_cases h2 : seed % 2 = 0
      · rw [if_pos h2]
        have e2 : seed.fmod 2 = 0 := by rw [Int.fmod_eq_emod_of_nonneg _ (by decide)]; exact h2
        refine sub_listZ F7 H3 (v := .ref c1) (by rw [e2]; rfl) (by rw [e2]; decide) (by rw [e2]; decide) ?_
        k_steps
        with_reducible rename Fr _ _ _ _ => F8
        with_reducible rename News _ _ _ _ => N8
        exact ⟨rfl, _, _, .ref c1, _, rfl, F8, N8, ⟨rfl, _, _, _, rfl, H4, (hz _).mpr (.inr (.inr (.inl rfl)))⟩, by simp +decide only [↓reduceIte], by simp +decide only [↓reduceIte], by simp +decide only [↓reduceIte]; rfl, by simp +decide only [↓reduceIte]; rfl⟩
      · rw [if_neg h2]
        have e2 : seed.fmod 2 = 1 := by rw [Int.fmod_eq_emod_of_nonneg _ (by decide)]; omega
        refine sub_listZ F7 H3 (v := .ref c2) (by rw [e2]; rfl) (by rw [e2]; decide) (by rw [e2]; decide) ?_
        k_steps
        with_reducible rename Fr _ _ _ _ => F8
        with_reducible rename News _ _ _ _ => N8
        exact ⟨rfl, _, _, .ref c2, _, rfl, F8, N8, ⟨rfl, _, _, _, rfl, H5, (hz _).mpr (.inr (.inr (.inr rfl)))⟩, by simp +decide only [↓reduceIte], by simp +decide only [↓reduceIte], by simp +decide only [↓reduceIte]; rfl, by simp +decide only [↓reduceIte]; rfl⟩
  rintro s' ⟨h7, tk7, tv, m7, rfl, F, N, hT, m1, m2, m3, m4⟩
  k_steps
  apply unhold
  with_reducible rename Fr _ _ _ _ => F8
  with_reducible rename News _ _ _ _ => N8
  have hdk8 := ‹Obj.IsDictOf _ _ _›
  have ord := arr_order N8 (by assumption) (by assumption) (by assumption)
  have I8 := lies_past (hold F6h) (fun b o e hb => back6 _ _ F8 (news_sub N8 fun p hp => .tail _ (.tail _ (.tail _ (.tail _ hp)))) b o e hb) (fun hm => (hS6 _ hm).1 rfl) (fun hm => let ⟨o, e⟩ := hZL _ hm; fresh_ne e hL0 rfl) I6
  refine new_array (X.keeps F8.keep) (T.keeps F8.keep) (by walk_at "my room") fun h9 tk9 a9 dx9 Tw9 => ?_
  have A9 := arr_of (prog := PySem.Challenge.rw_xw0007_01.prog) (w := w) (Z := Z) (n := 1) Tw9 (N8 _ (.tail _ (.tail _ (.head _)))).1 (N8 _ (.tail _ (.head _))).1 (N8 _ (.head _)).1
  have I9 := I8.stays Tw9.1
  have F9 := Fr.keeps F8 Tw9.1
  have N9 := News.grown (news_sub N8 (b := [_]) fun p hp => by rw [List.mem_singleton.mp hp]; exact .tail _ (.tail _ (.tail _ (.head _)))) Tw9.1
  obtain ⟨gl9, NG9, hdis9, back9⟩ := snap F9 N9
  replace hdis9 := fun p hp => hdis9 p hp _ (.head _)
  replace NG9 : News s.heap L h9 (_ :: gl9) := NG9
  obtain ⟨hS9, nd9⟩ := arr_apart F8 N8 hdk8 Tw9
  have hd09 := (NG9 _ (.head _)).2.2
  have ed9 := (NG9 _ (.head _)).1
  have live8 := I8.live
  have live6 := I6.live
  have hne6 := ord_ne ord in6 live6 hS6
  have ndA := List.nodup_append.mpr ⟨nd9, nd6, fun x hx y hy q => by
    subst q
    obtain ⟨o, e⟩ := live8 _ hy
    have z := hne6 _ hy
    simp only [List.mem_cons, List.not_mem_nil, or_false] at hx
    rcases hx with hx | hx | hx
    · rw [hx] at e
      exact fresh_ne e Tw9.2.1 rfl
    · exact z.2.1 hx
    · exact z.2.2 hx⟩
  have F9h : Hold _ := unhold F9
  clear F8 N8 N9
  have F := F9
  have N := NG9
  clear F9 NG9
  dsimp only at hdis9 hd09 ed9
  k_steps
  apply unhold
  with_reducible rename Fr _ _ _ _ => F10
  with_reducible rename News _ _ _ _ => N10
  have hk10 := ‹Obj.IsDictOf _ _ _›
  have kb : ∀ b o, _ → b ≠ L → b ≠ _ → _ := fun b o e h1 h2 => back9 _ _ F10 (news_sub N10 fun p hp => .tail _ hp) b o e h1 fun p hp q => by rw [List.mem_singleton.mp hp] at q; exact h2 q.symm
  have zz := zz_of hZL hL0 hd09
  have A10 := lies_past2 (hold F9h) kb (fun x hx => ⟨(hS9 x hx).1, (hS9 x hx).2.1⟩) zz ed9 hdk8 A9
  have I10 := lies_past2 (hold F9h) kb (fun x hx => ⟨(hS6 x hx).1, (hne6 x hx).1⟩) zz ed9 hdk8 I9
  have T10 := (lies_target (n := 2) hT).stays F10.keep
  have d10 := Heap.dictOf_iff.mpr ⟨_, (N10 _ (.head _)).1, hk10⟩
  have hdL10 := (N10 _ (.head _)).2.1
  refine new_record (X.keeps F10.keep) (T.keeps F10.keep) (by walk_at "my room") fun h11 tk11 a11 dx11 Tw11 => ?_
  have R := rec_of (num := 93) (n := 2) (fs := [(Str.ofString "n", .int seed), (Str.ofString "r", .arr [(1, 2)] [.int (seed + 20), .int 5]), (Str.ofString "p", targetD seed), (Str.ofString "d", .recd 91 [(Str.ofString "k", .arr [(1, 2)] [.int seed, .int 7])])]) Tw11 (H2.stays F10.keep) ((hz _).mpr (.inr (.inl rfl))) d10 rfl (liesL4 lies_int A10 T10 I10) (by simp) (by assumption) (by kernel_rfl)
  obtain ⟨hS11, nd11⟩ := rec_apart F10 hdL10 hd09 (N10 _ (.head _)).1 Tw11 (fun x hx => by
    rcases List.mem_append.mp hx with hx | hx
    · exact hS9 x hx
    · exact ⟨(hS6 x hx).1, (hne6 x hx).1, (hS6 x hx).2⟩) ndA (fun x hx => by
    rcases List.mem_append.mp hx with hx | hx
    · exact A10.live x hx
    · exact I10.live x hx)
  have k11 := stays_trans F10.keep Tw11.1
  exact hQ _ _ _ _ k11 R (fun x hx => (hS11 x hx).2) nd11
end
theorem lines_Member_3 : True := by
  k_with_none
  k_with "eval ListComp" => (refine hold ?_)
  k_with "exec For" => (refine hold ?_)
  k_with "exec For Name Attribute cons nil" => (refine hold ?_)
  k_with "exec For Name Name cons nil" => (refine hold ?_)
  k_with "exec For Name Call cons nil" => (refine hold ?_)
  k_with "exec For Tuple Name cons nil" => (refine hold ?_)
  k_with "getAttr ref" => (k_here; k_dflt (refine' get_has (by k_asm) (by k_asm) (by with_reducible assumption) (by k_is) (by k_is) (by k_is) (by k_is) (by exact rfl) ?_; k_whole))
  k_with "my comp" => (
  (case hh => rfl); (case hclos => exact closureFor_none (by decide)); (case hcell => decide); (case hkind => rfl); (case hnames => decide); (case hx => rfl); (case hs => intro x; rfl))
  k_with "my room" => first | omega | (dsimp only [Around.deeper, Around.in1]; omega)
  k_with "call ref" => (refine hold ?_)
  k_with "subscriptTail" => (k_here; (with_reducible show wpAny _ _ (subscriptTail _ _ (Value.ref _) (Value.str _ _)) _ _ _); k_dflt (refine' sub_dict (by k_asm) (by with_reducible assumption) (by with_reducible assumption) ?_; k_whole))
  k_with "subscriptTail" => (k_here; (with_reducible show wpAny _ _ (subscriptTail _ _ (Value.ref _) (Value.str _ _)) _ _ _); k_dflt (refine' sub_dictN (by k_asm) (by first | k_mem | (simp; done)) (by with_reducible assumption) (by with_reducible assumption) ?_; k_whole))
  k_with "exec Raise some none" => (k_here; (with_reducible show wpAny _ _ (exec (Stmt.Raise (some _) none _) _) _ _ _); refine raise_obj rfl ?_)
  k_with "my pairs" => (
  (case hh => rfl); (case hclos => exact closureFor_none (by decide)); (case hcell => decide); (case hkind => rfl); (case hnames => decide); (case hx => rfl); (case hx2 => rfl); (case hxx => decide); (case hs => intro x; rfl))
  k_with "subscriptTail" => (k_here; (with_reducible show wpAny _ _ (subscriptTail _ _ (Value.ref _) (Value.int _ _)) _ _ _); k_dflt (refine' sub_list (by k_asm) (by with_reducible assumption) (by with_reducible assumption) (by omega) ?_; k_whole))
  k_with "call type:range" => (refine hold ?_)
  k_with "my look" => first | with_reducible assumption | (simp +decide only [↓reduceIte]; with_reducible assumption)
  k_with "eval Name" => (k_here; (fail_if_success (with_reducible show wpAny _ _ (eval _ (compEnvC _ _ _ _)) _ _ _)); k_dflt (refine' ld (by k_asm) (by walk_at "my look") ?_; k_whole))
  k_with "exec" => (k_here; (with_reducible show wpAny _ _ (exec (Stmt.While _ _ [] _) _) _ _ _); refine while_out ?_)
  k_with "isTrue UnaryOp" => (k_here; (refine isTrue_not ?_); k_dflt (refine isTrue_plain ?_; refine Call_ ?_))
  k_with "exec Try" => (k_here; refine wpAny_Try_except ?_)
  trivial
/-- pairs of ints within bounds -/
def Within (lo hi : Int) (bs : List (Int × Int)) : Prop := ∀ c ∈ bs, lo ≤ c.1 ∧ c.1 ≤ hi ∧ lo ≤ c.2 ∧ c.2 ≤ hi
theorem fr_pushed {h₀ h hh : Heap} {L : Addr} {m : Str → Option Value} {o : Obj} (F : Fr h₀ L h m) (e : h.push o = hh) : Fr h₀ L hh m := by
  rw [← e]; exact F.push _
theorem news_pushed {h₀ h hh : Heap} {L : Addr} {news : List (Addr × Obj)} {o : Obj} (N : News h₀ L h news) (e : h.push o = hh) : News h₀ L hh news := by
  rw [← e]; exact News.grown N fun b x q => Heap.get?_push_of_some _ q
theorem news_tape {h₀ h h' : Heap} {L tape : Addr} {o o' : Obj} {c : Addr × Obj} {gl : List (Addr × Obj)} (N : News h₀ L h (c :: (tape, o) :: gl)) (hc : c.1 ≠ tape) (hdis : ∀ p ∈ gl, p.1 ≠ tape) (hk : ∀ b o, b ≠ tape → h.get? b = some o → h'.get? b = some o) (e : h'.get? tape = some o') : News h₀ L h' (c :: (tape, o') :: gl) := by
  have q := (N _ (.tail _ (.head _))).2
  intro p hp
  rcases List.mem_cons.mp hp with rfl | hp
  · exact ⟨hk _ _ hc (N _ (.head _)).1, (N _ (.head _)).2⟩
  · rcases List.mem_cons.mp hp with rfl | hp
    · exact ⟨e, q⟩
    · have z := N p (.tail _ (.tail _ hp))
      exact ⟨hk _ _ (hdis p hp) z.1, z.2⟩
theorem kept_tape {h₀ h h' : Heap} {K c tape : Addr} {oc o3 o7 : Obj} {D : Addr × Obj} {gl : List (Addr × Obj)} {m' : Str → Option Value} (F : Fr h₀ K h' m') (back : ∀ h' m', Fr h₀ K h' m' → News h₀ K h' gl → ∀ b o, h.get? b = some o → b ≠ K → (∀ p ∈ [(c, oc), (tape, o3)], p.1 ≠ b) → h'.get? b = some o) (ec : h.get? c = some oc) (N : News h₀ K h' (D :: (c, oc) :: (tape, o7) :: gl)) :
    ∀ b o, h.get? b = some o → b ≠ tape → b ≠ K → h'.get? b = some o := fun b o e hb1 hb2 => by
  by_cases q : b = c
  · subst q
    rw [ec] at e
    rw [← e]
    exact (N _ (.tail _ (.head _))).1
  · exact back _ _ F (news_sub N fun p hp => .tail _ (.tail _ (.tail _ hp))) b o e hb2 (fun p hp => by
      simp only [List.mem_cons, List.not_mem_nil, or_false] at hp
      rcases hp with rfl | rfl
      · exact Ne.symm q
      · exact Ne.symm hb1)
/-- the spans that were drawn -/
inductive SpanI (w : World) (tape row : Addr) (r : Int) (i : Nat) (ys : List Value) (h : Heap) : Prop
  | mk (bs : List (Int × Int)) (r' : Int) (t' : Tok) (o' : Obj) (p1 : PairL h ys bs) (p2 : bs.length = i) (p3 : Within (-4) 4 bs) (p4 : h.get? tape = some o') (p5 : o'.IsDictOf (PySem.strKind PySem.Challenge.rw_xw0007_01.prog w) (tapeK row r' t')) (p6 : r ≤ r') (p7 : r' ≤ r + 2 * i) : SpanI w tape row r i ys h
section
theorem lines_Spans_1 : True := by
  k_with "call type:range" => (refine hold ?_)
  trivial
variable {w : World} {dp un : Nat} {fr : Option (List Env)} {gd : Option (List Code)} {E : Value → Shared → Prop} {s : Shared} {Q : Value → Shared → Prop} {mean : ExcName → Option Value} {mg mb : Str → Option Value}
set_option maxHeartbeats 800000 in
theorem spans_ok {hw : Heap} (X : (hd.heap_39 w.params).In hw) (T : Top hd.view_39 (looseW hd.view_39 []) mean mg mb hw) (hws : hw.StaysIn s.heap) (hdep : dp + 4 < recursionLimit) {tape row : Addr} {o : Obj} {r : Int} {t : Tok} {vs : Array Value}
    (h0 : hw.get? tape = none) (ht : s.heap.get? tape = some o) (hd1 : o.IsDictOf (PySem.strKind PySem.Challenge.rw_xw0007_01.prog w) (tapeK row r t)) (hrow : s.heap.PlainList row vs) (hsz : vs.size ≤ 100) (hI : AllInt vs) (hr0 : 0 ≤ r) (hr1 : r ≤ 900) {dims : Nat} {tw : Tok} (hd2 : dims ≤ 2)
    (hQ : ∀ h' tk o' t2 l bs r', (∀ b o, b ≠ tape → s.heap.get? b = some o → h'.get? b = some o) → h'.get? tape = some o' → o'.IsDictOf (PySem.strKind PySem.Challenge.rw_xw0007_01.prog w) (tapeK row r' t2) → 0 ≤ r' → r' ≤ r + 4 → PairsAt h' l bs → l ≠ tape → bs.length = dims → Within (-4) 4 bs → Q (.ref l) { s with heap := h', toks := tk }) :
    wpAny (model PySem.Challenge.rw_xw0007_01.prog w) (Ar dp un fr gd) (call (.ref 628) [.ref tape, .int dims tw]) Q E s := by
  have hb0 : (hideAll s.heap [tape]).StaysIn s.heap := fun x o e => of_hideAll _ e
  have hin : ∀ b o, s.heap.get? b = some o → b ≠ tape → (hideAll s.heap [tape]).get? b = some o := fun b o e hx => hideAll_get _ e (by simpa using hx)
  have hout : (hideAll s.heap [tape]).get? tape = none := hideAll_none _ (by simp)
  have hsz0 : (hideAll s.heap [tape]).objs.size = s.heap.objs.size := hideAll_size _ _
  generalize hideAll s.heap [tape] = hb at hb0 hin hout hsz0
  have hwb : hw.StaysIn hb := fun b o e => hin b o (hws _ _ e) fun hm => by rw [hm, h0] at e; cases e
  have hne : row ≠ tape := fun q => by
    obtain ⟨n, e⟩ := hrow
    rw [q, ht] at e; cases e
    obtain ⟨_, _, _, hd, _⟩ := hd1
    cases hd
  have hrow0 : hb.PlainList row vs := hrow.at fun o e => hin _ _ e hne
  have X0 := X.keeps hwb
  have T0 := T.keeps hwb
  clear X T
  refine' enterGC [(Str.ofString "tape", .ref tape), (Str.ofString "dims", .int dims tw)] hb0 (Nat.le_of_eq hsz0) (news := [(tape, o)]) (fun p hp => by simp only [List.mem_cons, List.not_mem_nil, or_false] at hp; subst hp; exact ⟨ht, hout⟩) X0 T0.nolimit (by omega) ?ho ?hcd ?hb ?hl ?hc ?h1 ?h2 ?h3 ?_
  case ho => k_is
  case hcd => k_is
  case hb => exact BindsTo.of_eq rfl
  case hl => exact rfl
  case hc => decide +kernel
  case h1 => rfl
  case h2 => rfl
  case h3 => rfl
  intro L h₁ tk cells' hL hk1 F N Y'
  k_cells Y'
  with_reducible rename _ = Data.cell _ => d1
  with_reducible rename Obj => oc
  simp only [List.cons_append, List.nil_append, List.append_nil] at N
  have hc1 := N _ (.head _)
  k_steps
  apply unhold
  refine' comp_range (cl := [(Str.ofString "tape", L + 1)]) ?hh ?hclos ?hcell ?hkind ?hnames ?hx ?h ?hs
  case hh => rfl
  case hclos => rfl
  case hcell => decide
  case hkind => rfl
  case hnames => decide
  case hx => rfl
  case hs => intro x; rfl
  k_steps
  apply unhold
  refine call_range_1 ?_
  apply unhold
  refine ⟨_, dims, _, _, _, rfl, IsRange.new .., by omega, fun hh K e hK => ?_⟩
  have FH := fr_pushed F e
  have NH := news_pushed N e
  have ec := (NH _ (.head _)).1
  have et := (NH _ (.tail _ (.head _))).1
  have hcb := (NH _ (.head _)).2.2
  have hbK : ∀ {b o}, hh.get? b = some o → @LT.lt Nat _ b K := fun q => by rw [hK]; exact Heap.lt_size q
  have hct : L + 1 ≠ tape := fun q => by
    rw [q] at hcb
    dsimp only at ec et
    rw [q, et] at ec
    injection ec with ec
    obtain ⟨_, _, _, hd, _⟩ := hd1
    rw [ec] at hd
    rw [hd] at d1; cases d1
  dsimp only at ec et hcb
  clear F N
  refine ⟨[tape], SpanI w tape row r,
    (fun b hb => by rw [List.mem_singleton.mp hb]; exact hbK et), ⟨[], r, t, o, trivial, rfl, fun c hc => absurd hc List.not_mem_nil, et, hd1, by omega, by omega⟩, ?_, ?_, ?_⟩
  · rintro i ys h h' ⟨bs, r', t', o', p1, p2, p3, p4, p5, p6, p7⟩ hk
    have q := hbK et
    exact ⟨bs, r', t', o', p1.keep fun b o e sf => hk b o e (.inl sf), p2, p3, hk _ _ p4 (.inr ⟨neN (by omega), neN (by omega), neN (by omega)⟩), p5, p6, p7⟩
  · rintro i ti ys h3 g3 d3 t3 os3 m₃ hi ⟨bs, r', t', o', p1, p2, p3, p4, p5, p6, p7⟩ hns hm hszK hlv hk
    have hne1 : K + 2 ≠ tape := fun q => by have := hbK et; rw [← q] at this; omega
    have hne2 : L + 1 ≠ K + 2 := fun q => by have := hbK ec; rw [q] at this; omega
    have FC : Fr hb (K + 2) h3 m₃ := ⟨hns, fun b o e => hk b o (fun hm => by rw [List.mem_singleton.mp hm, hout] at e; cases e) (FH.keep b o e), Nat.le_trans FH.above (by have := ltN FH.ns.lt; rw [hK]; exact Nat.le_of_lt (Nat.lt_of_lt_of_le FH.ns.lt (Nat.le_add_right _ _)))⟩
    have NC : News hb (K + 2) h3 [(L + 1, oc), (tape, o')] := by
      intro p hp
      rcases List.mem_cons.mp hp with rfl | hp
      · exact ⟨hk _ _ (fun hm => hct (List.mem_singleton.mp hm)) ec, hne2, hcb⟩
      · rw [List.mem_singleton.mp hp]
        exact ⟨p4, hne1.symm, hout⟩
    obtain ⟨gl, NG, hdis, back⟩ := snap FC NC
    replace hdis := fun p hp => hdis p hp (tape, o') (.tail _ (.head _))
    dsimp only at hdis
    clear NC
    replace NG : News hb (K + 2) h3 ((L + 1, oc) :: (tape, o') :: gl) := NG
    have hns3 := hns
    clear FH NH
    have eNG := (NG _ (.head _)).1
    k_steps
    apply unhold
    refine slot_ok X0 T0 (by exact FC.keep) (by walk_at "my room") hout p4 p5 (hrow0.at fun o e => FC.keep _ _ e) hsz hI (by omega) (by omega) (by decide) (by decide) fun h5 tk5 o5 v5 t5 u5 hk5 e5 hd5 lo5 hi5 => ?_
    have F5 := fr_at FC (fun b o hb e => hk5 b o hb e) hne1 hout
    have N5 := news_tape NG hct hdis hk5 e5
    clear FC NG
    k_steps
    apply unhold
    with_reducible rename Fr _ _ _ _ => F6
    with_reducible rename News _ _ _ _ => N6
    refine slot_ok X0 T0 (by exact F6.keep) (by walk_at "my room") hout (N6 _ (.tail _ (.head _))).1 hd5 (hrow0.at fun o e => F6.keep _ _ e) hsz hI (by omega) (by omega) (by decide) (by decide) fun h7 tk7 o7 v7 t7 u7 hk7 e7 hd7 lo7 hi7 => ?_
    have F7 := fr_at F6 (fun b o hb e => hk7 b o hb e) hne1 hout
    have N7 := news_tape N6 hct hdis hk7 e7
    clear F6 N6
    k_steps
    with_reducible rename Fr _ _ _ _ => F8
    with_reducible rename News _ _ _ _ => N8
    try k_unfold
    have kept := kept_tape F8 back eNG N8
    refine ⟨_, _, rfl, fun b o hb1 hb2 e => kept b o e (fun q => hb1 (List.mem_singleton.mpr q)) hb2, ⟨_, F8.ns⟩, bs ++ [(0 - v5, v7)], r' + 1 + 1, u7, o7, ?_, by simp [p2], ?_, (N8 _ (.tail _ (.tail _ (.head _)))).1, hd7, by omega, by push_cast; omega⟩
    · refine PairL.snoc (p1.keep fun b o e sf => kept b o e (fun q => ?_) (fun q => not_soft_ns hns3 (q ▸ e) sf)) (N8 _ (.head _)).1
      rw [q, p4] at e; cases e
      obtain ⟨_, _, _, hd, _⟩ := p5
      exact not_soft_dict hd sf
    · intro c hc
      rcases List.mem_append.mp hc with hc | hc
      · exact p3 c hc
      · rw [List.mem_singleton.mp hc]
        dsimp only
        omega
  · rintro h' tk' ys hpl hys ⟨bs, r', t', o', p1, p2, p3, p4, p5, p6, p7⟩ hk
    have hLt : L ≠ tape := fun q => by have := Heap.lt_size ht; rw [← q, hL] at this; exact Nat.lt_irrefl _ this
    have FR : Fr hb L h' _ := ⟨FH.ns.at' fun o e => hk _ o (fun hm => hLt (List.mem_singleton.mp hm)) e, fun b o e => hk b o (fun hm => by rw [List.mem_singleton.mp hm, hout] at e; cases e) (FH.keep b o e), FH.above⟩
    have NR : News hb L h' [] := News.nil
    have hall : ∀ b o, b ≠ tape → s.heap.get? b = some o → h'.get? b = some o := fun b o hb1 e => FR.keep _ _ (hin b o e hb1)
    have hlt : K + 1 ≠ tape := fun q => by have := hbK et; rw [← q] at this; omega
    clear FH NH
    k_steps
    exact hQ _ _ o' t' (K + 1) bs r' hall p4 p5 (by omega) (by omega) ⟨ys, hpl, p1⟩ hlt p2 p3
end
theorem lines_Spans_2 : True := by
  k_with_none
  k_with "eval ListComp" => (refine hold ?_)
  k_with "exec For" => (refine hold ?_)
  k_with "exec For Name Attribute cons nil" => (refine hold ?_)
  k_with "exec For Name Name cons nil" => (refine hold ?_)
  k_with "exec For Name Call cons nil" => (refine hold ?_)
  k_with "exec For Tuple Name cons nil" => (refine hold ?_)
  k_with "getAttr ref" => (k_here; k_dflt (refine' get_has (by k_asm) (by k_asm) (by with_reducible assumption) (by k_is) (by k_is) (by k_is) (by k_is) (by exact rfl) ?_; k_whole))
  k_with "my comp" => (
  (case hh => rfl); (case hclos => exact closureFor_none (by decide)); (case hcell => decide); (case hkind => rfl); (case hnames => decide); (case hx => rfl); (case hs => intro x; rfl))
  k_with "my room" => first | omega | (dsimp only [Around.deeper, Around.in1]; omega)
  k_with "call ref" => (refine hold ?_)
  k_with "subscriptTail" => (k_here; (with_reducible show wpAny _ _ (subscriptTail _ _ (Value.ref _) (Value.str _ _)) _ _ _); k_dflt (refine' sub_dict (by k_asm) (by with_reducible assumption) (by with_reducible assumption) ?_; k_whole))
  k_with "subscriptTail" => (k_here; (with_reducible show wpAny _ _ (subscriptTail _ _ (Value.ref _) (Value.str _ _)) _ _ _); k_dflt (refine' sub_dictN (by k_asm) (by first | k_mem | (simp; done)) (by with_reducible assumption) (by with_reducible assumption) ?_; k_whole))
  k_with "exec Raise some none" => (k_here; (with_reducible show wpAny _ _ (exec (Stmt.Raise (some _) none _) _) _ _ _); refine raise_obj rfl ?_)
  k_with "my pairs" => (
  (case hh => rfl); (case hclos => exact closureFor_none (by decide)); (case hcell => decide); (case hkind => rfl); (case hnames => decide); (case hx => rfl); (case hx2 => rfl); (case hxx => decide); (case hs => intro x; rfl))
  k_with "subscriptTail" => (k_here; (with_reducible show wpAny _ _ (subscriptTail _ _ (Value.ref _) (Value.int _ _)) _ _ _); k_dflt (refine' sub_list (by k_asm) (by with_reducible assumption) (by with_reducible assumption) (by omega) ?_; k_whole))
  k_with "call type:range" => (refine hold ?_)
  k_with "my look" => first | with_reducible assumption | (simp +decide only [↓reduceIte]; with_reducible assumption)
  k_with "eval Name" => (k_here; (fail_if_success (with_reducible show wpAny _ _ (eval _ (compEnvC _ _ _ _)) _ _ _)); k_dflt (refine' ld (by k_asm) (by walk_at "my look") ?_; k_whole))
  k_with "exec" => (k_here; (with_reducible show wpAny _ _ (exec (Stmt.While _ _ [] _) _) _ _ _); refine while_out ?_)
  k_with "isTrue UnaryOp" => (k_here; (refine isTrue_not ?_); k_dflt (refine isTrue_plain ?_; refine Call_ ?_))
  k_with "exec Try" => (k_here; refine wpAny_Try_except ?_)
  trivial
theorem kept_two {h₀ h h' : Heap} {L l tape : Addr} {o1 o2 o3 o4 : Obj} {D : Addr × Obj} {gl : List (Addr × Obj)} {m' : Str → Option Value} (F : Fr h₀ L h' m') (back : ∀ h' m', Fr h₀ L h' m' → News h₀ L h' gl → ∀ b o, h.get? b = some o → b ≠ L → (∀ p ∈ [(l, o1), (tape, o2)], p.1 ≠ b) → h'.get? b = some o) (N : News h₀ L h' (D :: (l, o3) :: (tape, o4) :: gl)) :
    ∀ b o, h.get? b = some o → b ≠ L → b ≠ l → b ≠ tape → h'.get? b = some o := fun b o e hb1 hb2 hb3 =>
  back _ _ F (news_sub N fun p hp => .tail _ (.tail _ (.tail _ hp))) b o e hb1 (fun p hp => by
    simp only [List.mem_cons, List.not_mem_nil, or_false] at hp
    rcases hp with rfl | rfl
    · exact Ne.symm hb2
    · exact Ne.symm hb3)
theorem news_named {h₀ h : Heap} {L a : Addr} {o : Obj} {r : List (Addr × Obj)} (N : News h₀ L h ((a, o) :: r)) : ∃ l, l = a ∧ News h₀ L h ((l, o) :: r) := ⟨a, rfl, N⟩
def Short (bs : List (Int × Int)) : Prop := ∀ c ∈ bs, c.2 ≤ c.1 + 2
/-- the edges that were drawn; l: their list -/
inductive EdgeI (w : World) (hb : Heap) (L tape l row : Addr) (r : Int) (i : Nat) (h : Heap) : Prop
  | mk (m : Str → Option Value) (bs : List (Int × Int)) (r' : Int) (t' : Tok) (o' : Obj) (vals : Array Value) (nn : Nat) (F : Fr hb L h m) (m1 : m (Str.ofString "tape") = some (.ref tape)) (m2 : m (Str.ofString "found") = some (.ref l)) (p0 : h.get? l = some (W.listOf vals nn)) (p1 : PairL h vals.toList bs) (p2 : bs.length = i) (p3 : Within (-5) 6 bs ∧ Short bs)
    (p4 : h.get? tape = some o') (p5 : o'.IsDictOf (PySem.strKind PySem.Challenge.rw_xw0007_01.prog w) (tapeK row r' t')) (p6 : r ≤ r') (p7 : r' ≤ r + 2 * i) : EdgeI w hb L tape l row r i h
section
theorem lines_Edges_1 : True := by
  k_with "call type:range" => (refine hold ?_)
  trivial
variable {w : World} {dp un : Nat} {fr : Option (List Env)} {gd : Option (List Code)} {E : Value → Shared → Prop} {s : Shared} {Q : Value → Shared → Prop} {mean : ExcName → Option Value} {mg mb : Str → Option Value}
set_option maxHeartbeats 800000 in
theorem edges_ok {hw : Heap} (X : (hd.heap_39 w.params).In hw) (T : Top hd.view_39 (looseW hd.view_39 []) mean mg mb hw) (hws : hw.StaysIn s.heap) (hdep : dp + 4 < recursionLimit) {tape row : Addr} {o : Obj} {r : Int} {t : Tok} {vs : Array Value}
    (h0 : hw.get? tape = none) (ht : s.heap.get? tape = some o) (hd1 : o.IsDictOf (PySem.strKind PySem.Challenge.rw_xw0007_01.prog w) (tapeK row r t)) (hrow : s.heap.PlainList row vs) (hsz : vs.size ≤ 100) (hI : AllInt vs) (hr0 : 0 ≤ r) (hr1 : r ≤ 900) {dims : Nat} {tw : Tok} (hd2 : dims ≤ 2)
    (hQ : ∀ h' tk o' t2 l bs r', (∀ b o, b ≠ tape → s.heap.get? b = some o → h'.get? b = some o) → h'.get? tape = some o' → o'.IsDictOf (PySem.strKind PySem.Challenge.rw_xw0007_01.prog w) (tapeK row r' t2) → 0 ≤ r' → r' ≤ r + 4 → PairsAt h' l bs → l ≠ tape → bs.length = dims → Within (-5) 6 bs ∧ Short bs → Q (.ref l) { s with heap := h', toks := tk }) :
    wpAny (model PySem.Challenge.rw_xw0007_01.prog w) (Ar dp un fr gd) (call (.ref 640) [.ref tape, .int dims tw]) Q E s := by
  have hb0 : (hideAll s.heap [tape]).StaysIn s.heap := fun x o e => of_hideAll _ e
  have hin : ∀ b o, s.heap.get? b = some o → b ≠ tape → (hideAll s.heap [tape]).get? b = some o := fun b o e hx => hideAll_get _ e (by simpa using hx)
  have hout : (hideAll s.heap [tape]).get? tape = none := hideAll_none _ (by simp)
  have hsz0 : (hideAll s.heap [tape]).objs.size = s.heap.objs.size := hideAll_size _ _
  generalize hideAll s.heap [tape] = hb at hb0 hin hout hsz0
  have hwb : hw.StaysIn hb := fun b o e => hin b o (hws _ _ e) fun hm => by rw [hm, h0] at e; cases e
  have hne : row ≠ tape := fun q => by
    obtain ⟨n, e⟩ := hrow
    rw [q, ht] at e; cases e
    obtain ⟨_, _, _, hd, _⟩ := hd1
    cases hd
  have hrow0 : hb.PlainList row vs := hrow.at fun o e => hin _ _ e hne
  have X0 := X.keeps hwb
  have T0 := T.keeps hwb
  clear X T
  refine' enterG [(Str.ofString "tape", .ref tape), (Str.ofString "dims", .int dims tw)] hb0 (Nat.le_of_eq hsz0) (news := [(tape, o)]) (fun p hp => by simp only [List.mem_cons, List.not_mem_nil, or_false] at hp; subst hp; exact ⟨ht, hout⟩) X0 T0.nolimit (by omega) ?ho ?hcd ?hb ?hl ?hc ?h1 ?h2 ?h3 ?_
  case ho => k_is
  case hcd => k_is
  case hb => exact BindsTo.of_eq rfl
  case hl => exact locs rfl
  case hc => decide
  case h1 => rfl
  case h2 => rfl
  case h3 => rfl
  intro L h₁ hL hk1 F N
  k_fold
  k_steps
  apply unhold
  refine for_range rfl ?h ?hs
  case hs => intro x; rfl
  k_steps
  apply unhold
  refine call_range_1 ?_
  apply unhold
  with_reducible rename Fr _ _ _ _ => F2
  with_reducible rename News _ _ _ _ => N2
  obtain ⟨l, hln, N2⟩ := news_named N2
  subst hln
  refine ⟨_, dims, _, _, _, rfl, IsRange.new .., by omega, fun hh K e hK => ?_⟩
  have FH := fr_pushed F2 e
  have NH := news_pushed N2 e
  have el := (NH _ (.head _)).1
  have et := (NH _ (.tail _ (.head _))).1
  have hlb := (NH _ (.head _)).2.2
  have hlL := (NH _ (.head _)).2.1
  have hLt : L ≠ tape := fun q => by have := Heap.lt_size ht; rw [← q, hL] at this; exact Nat.lt_irrefl _ this
  have hbK : ∀ {b o}, hh.get? b = some o → @LT.lt Nat _ b K := fun q => by rw [hK]; exact Heap.lt_size q
  dsimp only at el et hlb hlL
  have hlt : l ≠ tape := fun q => by
    rw [q, et] at el
    injection el with el
    obtain ⟨_, _, _, hd, _⟩ := hd1
    rw [el] at hd
    cases hd
  have hKL : L ≠ K := fun q => by obtain ⟨oL, _, _, ho, _⟩ := FH.ns; have := hbK ho; rw [q] at this; exact Nat.lt_irrefl _ this
  have hKl : l ≠ K := fun q => by have := hbK el; rw [q] at this; exact Nat.lt_irrefl _ this
  have hKt : tape ≠ K := fun q => by have := hbK et; rw [q] at this; exact Nat.lt_irrefl _ this
  have hK0 : hb.get? K = none := Heap.get?_none_of_le (by rw [hsz0, ← hL]; obtain ⟨oL, _, _, ho, _⟩ := FH.ns; exact Nat.le_of_lt (hbK ho))
  clear F2 N2
  refine ⟨EdgeI w hb L tape l row r,
    ⟨_, [], r, t, o, #[], 0, FH, by simp +decide only [↓reduceIte]; rfl, by simp +decide only [↓reduceIte], el, trivial, rfl, ⟨fun c hc => absurd hc List.not_mem_nil, fun c hc => absurd hc List.not_mem_nil⟩, et, hd1, by omega, by omega⟩, ?_, ?_, ?_⟩
  · rintro i h h' ⟨m, bs, r', t', o', vals, nn, F', m1, m2, p0, p1, p2, p3, p4, p5, p6, p7⟩ hk
    exact ⟨m, bs, r', t', o', vals, nn, fr_at F' (fun b o hb q => hk b o q (.inr hb)) hKL hK0, m1, m2, hk _ _ p0 (.inr hKl), p1.keep fun b o e sf => hk b o e (.inl sf), p2, p3, hk _ _ p4 (.inr hKt), p5, p6, p7⟩
  · rintro i ti h3 tk3 oI hi hI3 hsoft ⟨m, bs, r', t', o', vals, nn, F3, m1, m2, p0, p1, p2, p3, p4, p5, p6, p7⟩
    have NC : News hb L h3 [(l, W.listOf vals nn), (tape, o')] := by
      intro p hp
      rcases List.mem_cons.mp hp with rfl | hp
      · exact ⟨p0, hlL, hlb⟩
      · rw [List.mem_singleton.mp hp]
        exact ⟨p4, hLt.symm, hout⟩
    obtain ⟨gl, NG, hdis, back⟩ := snap F3 NC
    have hdisl := fun p hp => hdis p hp (l, W.listOf vals nn) (.head _)
    replace hdis := fun p hp => hdis p hp (tape, o') (.tail _ (.head _))
    dsimp only at hdis hdisl
    clear NC
    replace NG : News hb L h3 ((l, W.listOf vals nn) :: (tape, o') :: gl) := NG
    have hns3 := F3.ns
    have hvs : vals.size ≤ 2 := by
      have := p1.length
      rw [Array.length_toList] at this
      omega
    clear FH NH
    k_steps
    apply unhold
    with_reducible rename Fr _ _ _ _ => F4
    with_reducible rename News _ _ _ _ => N4
    refine slot_ok X0 T0 (by exact F4.keep) (by walk_at "my room") hout (N4 _ (.tail _ (.head _))).1 p5 (hrow0.at fun o e => F4.keep _ _ e) hsz hI (by omega) (by omega) (by decide) (by decide) fun h5 tk5 o5 v5 t5 u5 hk5 e5 hd5 lo5 hi5 => ?_
    have F5 := fr_at F4 (fun b o hb e => hk5 b o hb e) hLt hout
    have N5 := news_tape N4 hlt hdis hk5 e5
    clear F4 N4
    k_steps
    apply unhold
    with_reducible rename Fr _ _ _ _ => F6
    with_reducible rename News _ _ _ _ => N6
    refine slot_ok X0 T0 (by exact F6.keep) (by walk_at "my room") hout (N6 _ (.tail _ (.head _))).1 hd5 (hrow0.at fun o e => F6.keep _ _ e) hsz hI (by omega) (by omega) (by decide) (by decide) fun h7 tk7 o7 v7 t7 u7 hk7 e7 hd7 lo7 hi7 => ?_
    have F7 := fr_at F6 (fun b o hb e => hk7 b o hb e) hLt hout
    have N7 := news_tape N6 hlt hdis hk7 e7
    clear F6 N6
    k_steps
    with_reducible rename Fr _ _ _ _ => F8
    with_reducible rename News _ _ _ _ => N8
    refine append_K F8 N8 (.tail (fun q => ?_) (.head (fun p hp => ?_))) (fun h9 F9 N9 => ?_) (by rw [sizeLine]; omega)
    · have e1 := (N8 _ (.head _)).1
      have e2 := (N8 _ (.tail _ (.head _))).1
      dsimp only at e1 e2 q
      rw [q, e2] at e1; simp [W.listOf] at e1
    · rcases List.mem_cons.mp hp with rfl | hp
      · exact hlt.symm
      · exact hdisl p hp
    clear F8 N8
    k_steps
    apply unhold
    with_reducible rename Fr _ _ _ _ => F10
    with_reducible rename News _ _ _ _ => N10
    have kept := kept_two F10 back N10
    refine ⟨_, _, rfl, kept _ _ hI3 hKL.symm hKl.symm hKt.symm, _, bs ++ [(v5 - 4, v5 - 4 + v7 - 1)], r' + 1 + 1, u7, o7, _, _, F10, by simp +decide only [↓reduceIte]; exact m1, by simp +decide only [↓reduceIte]; exact m2, (N10 _ (.tail _ (.head _))).1, ?_, by simp [p2], ?_, (N10 _ (.tail _ (.tail _ (.head _)))).1, hd7, by omega, by push_cast; omega⟩
    · rw [Array.toList_push]
      refine PairL.snoc (p1.keep fun b o e sf => kept b o e (fun q => not_soft_ns hns3 (q ▸ e) sf) (fun q => ?_) (fun q => ?_)) (N10 _ (.head _)).1
      · rw [q, p0] at e; cases e
        exact not_soft_list ⟨_, p0⟩ p0 sf
      · rw [q, p4] at e; cases e
        obtain ⟨_, _, _, hd, _⟩ := p5
        exact not_soft_dict hd sf
    · refine ⟨fun c hc => ?_, fun c hc => ?_⟩
      · rcases List.mem_append.mp hc with hc | hc
        · exact p3.1 c hc
        · rw [List.mem_singleton.mp hc]
          dsimp only
          omega
      · rcases List.mem_append.mp hc with hc | hc
        · exact p3.2 c hc
        · rw [List.mem_singleton.mp hc]
          dsimp only
          omega
  · rintro h' tk' ⟨m, bs, r', t', o', vals, nn, F3, m1, m2, p0, p1, p2, p3, p4, p5, p6, p7⟩
    have N3 : News hb L h' [] := News.nil
    clear FH NH
    k_steps
    dsimp only
    with_reducible rename Fr _ _ _ _ => F4
    exact hQ _ _ o' t' l bs r' (fun b o hb1 e => F4.keep _ _ (hin b o e hb1)) p4 p5 (by omega) (by omega) ⟨vals, ⟨_, p0⟩, p1⟩ hlt p2 p3
end
theorem lines_Edges_2 : True := by
  k_with_none
  k_with "eval ListComp" => (refine hold ?_)
  k_with "exec For" => (refine hold ?_)
  k_with "exec For Name Attribute cons nil" => (refine hold ?_)
  k_with "exec For Name Name cons nil" => (refine hold ?_)
  k_with "exec For Name Call cons nil" => (refine hold ?_)
  k_with "exec For Tuple Name cons nil" => (refine hold ?_)
  k_with "getAttr ref" => (k_here; k_dflt (refine' get_has (by k_asm) (by k_asm) (by with_reducible assumption) (by k_is) (by k_is) (by k_is) (by k_is) (by exact rfl) ?_; k_whole))
  k_with "my comp" => (
  (case hh => rfl); (case hclos => exact closureFor_none (by decide)); (case hcell => decide); (case hkind => rfl); (case hnames => decide); (case hx => rfl); (case hs => intro x; rfl))
  k_with "my room" => first | omega | (dsimp only [Around.deeper, Around.in1]; omega)
  k_with "call ref" => (refine hold ?_)
  k_with "subscriptTail" => (k_here; (with_reducible show wpAny _ _ (subscriptTail _ _ (Value.ref _) (Value.str _ _)) _ _ _); k_dflt (refine' sub_dict (by k_asm) (by with_reducible assumption) (by with_reducible assumption) ?_; k_whole))
  k_with "subscriptTail" => (k_here; (with_reducible show wpAny _ _ (subscriptTail _ _ (Value.ref _) (Value.str _ _)) _ _ _); k_dflt (refine' sub_dictN (by k_asm) (by first | k_mem | (simp; done)) (by with_reducible assumption) (by with_reducible assumption) ?_; k_whole))
  k_with "exec Raise some none" => (k_here; (with_reducible show wpAny _ _ (exec (Stmt.Raise (some _) none _) _) _ _ _); refine raise_obj rfl ?_)
  k_with "my pairs" => (
  (case hh => rfl); (case hclos => exact closureFor_none (by decide)); (case hcell => decide); (case hkind => rfl); (case hnames => decide); (case hx => rfl); (case hx2 => rfl); (case hxx => decide); (case hs => intro x; rfl))
  k_with "subscriptTail" => (k_here; (with_reducible show wpAny _ _ (subscriptTail _ _ (Value.ref _) (Value.int _ _)) _ _ _); k_dflt (refine' sub_list (by k_asm) (by with_reducible assumption) (by with_reducible assumption) (by omega) ?_; k_whole))
  k_with "call type:range" => (refine hold ?_)
  k_with "my look" => first | with_reducible assumption | (simp +decide only [↓reduceIte]; with_reducible assumption)
  k_with "eval Name" => (k_here; (fail_if_success (with_reducible show wpAny _ _ (eval _ (compEnvC _ _ _ _)) _ _ _)); k_dflt (refine' ld (by k_asm) (by walk_at "my look") ?_; k_whole))
  k_with "exec" => (k_here; (with_reducible show wpAny _ _ (exec (Stmt.While _ _ [] _) _) _ _ _); refine while_out ?_)
  k_with "isTrue UnaryOp" => (k_here; (refine isTrue_not ?_); k_dflt (refine isTrue_plain ?_; refine Call_ ?_))
  k_with "exec Try" => (k_here; refine wpAny_Try_except ?_)
  trivial
theorem beq_flip {a b : Str} (h : (a == b) = false) : (b == a) = false := by
  rw [beq_eq_false_iff_ne] at h ⊢
  exact fun q => h q.symm
theorem isStr_iff {v : Value} {n : Str} (h : v.isStr n = true) : ∃ t, v = .str n t := by
  cases v <;> simp [Value.isStr] at h
  rename_i s t
  exact ⟨t, by rw [h]⟩
theorem putL_find_ne {nm name : Str} (h : (nm == name) = false) (hsh : Int) (t : Tok) (v : Value) : ∀ es : List DictEntry,
    ((putL name hsh (.str name t) v es).find? (·.key.isStr nm)).map (·.val) = (es.find? (·.key.isStr nm)).map (·.val)
  | [] => by
    simp [putL, Value.isStr, beq_flip h]
  | e :: r => by
    have ih := putL_find_ne h hsh t v r
    rw [putL]
    by_cases q : e.key.isStr name = true
    · rw [if_pos q]
      obtain ⟨t', q'⟩ := isStr_iff q
      simp [List.find?_cons, q', Value.isStr, beq_flip h]
    · rw [if_neg q]
      simp only [List.find?_cons]
      cases e.key.isStr nm with
      | true => rfl
      | false => exact ih
theorem putL_find_eq {name : Str} (hsh : Int) (t : Tok) (v : Value) : ∀ es : List DictEntry,
    ((putL name hsh (.str name t) v es).find? (·.key.isStr name)).map (·.val) = some v
  | [] => by simp [putL, Value.isStr]
  | e :: r => by
    have ih := putL_find_eq (name := name) hsh t v r
    rw [putL]
    by_cases q : e.key.isStr name = true
    · rw [if_pos q]
      simp [List.find?_cons, q]
    · rw [if_neg q]
      simp only [List.find?_cons, q]
      exact ih
theorem getL_find {nm : Str} {es : List DictEntry} {v : Value} : getL nm es = some (some v) ↔ (es.find? (·.key.isStr nm)).map (·.val) = some v := by
  unfold getL
  cases es.find? (·.key.isStr nm) with
  | none => simp
  | some e => simp
theorem getL_put_ne {nm name : Str} (h : (nm == name) = false) {hsh : Int} {t : Tok} {v u : Value} {es : List DictEntry} (x : getL nm es = some (some u)) : getL nm (putL name hsh (.str name t) v es) = some (some u) := by
  rw [getL_find] at x ⊢
  rw [putL_find_ne h]; exact x
theorem getL_put_eq {name : Str} {hsh : Int} {t : Tok} {v : Value} {es : List DictEntry} : getL name (putL name hsh (.str name t) v es) = some (some v) := by
  rw [getL_find]; exact putL_find_eq _ _ _ _
theorem putL_len {name : Str} {hsh : Int} {k v : Value} : ∀ es : List DictEntry, (putL name hsh k v es).length ≤ es.length + 1
  | [] => by simp [putL]
  | e :: r => by
    have := putL_len (name := name) (hsh := hsh) (k := k) (v := v) r
    rw [putL]; split <;> simp <;> omega

/-- a type object, its dict known -/
structure TyE (h : Heap) (x dx : Addr) (kind : Str) (lo hi iv : Value) (c : Bool) (es : List DictEntry) (n : Nat) : Prop where
  obj : h.get? x = some (instObj 229 dx)
  dict : h.get? dx = some (W.dictOf es n)
  len : es.length ≤ 30
  kind : ∃ t, getL (Str.ofString "kind") es = some (some (.str kind t))
  low : getL (Str.ofString "low") es = some (some lo)
  high : getL (Str.ofString "high") es = some (some hi)
  index : getL (Str.ofString "index") es = some (some iv)
  isC : getL (Str.ofString "is_constrained") es = some (some (.bool c))
  tagged : getL (Str.ofString "is_tagged") es = some (some (.bool false))
  number : (getL (Str.ofString "number") es).isSome = true
/-- a dict of a made thing, as far as it is followed: its length, the values of some names -/
structure Gd (es : List DictEntry) (k : Nat) (g : List (Str × Value)) : Prop where
  len : es.length ≤ k
  keyed : ∀ e ∈ es, ∃ nm t, e.key = .str nm t
  val : ∀ nm v, g.lookup nm = some v → getL nm es = some (some v)
theorem Gd.nil : Gd [] 0 [] := ⟨Nat.le_refl _, fun _ h => absurd h List.not_mem_nil, fun _ _ h => by cases h⟩
theorem putL_strs {name : Str} {hsh : Int} {t : Tok} {v : Value} : ∀ {es : List DictEntry}, (∀ e ∈ es, ∃ nm t, e.key = .str nm t) → ∀ e ∈ putL name hsh (.str name t) v es, ∃ nm t, e.key = .str nm t
  | [], _, e, he => by
    rw [putL, List.mem_singleton] at he
    exact ⟨_, _, by rw [he]⟩
  | e0 :: r, h, e, he => by
    rw [putL] at he
    split at he
    · rcases List.mem_cons.mp he with rfl | he
      · exact h e0 (.head _)
      · exact h e (.tail _ he)
    · rcases List.mem_cons.mp he with rfl | he
      · exact h _ (.head _)
      · exact putL_strs (fun x hx => h x (.tail _ hx)) e he
theorem Gd.some {es : List DictEntry} {k : Nat} {g : List (Str × Value)} (G : Gd es k g) (nm : Str) : (getL nm es).isSome = true := by
  unfold getL
  split
  · rfl
  · have : es.any (·.refKey) = false := by
      rw [List.any_eq_false]
      intro e he
      obtain ⟨a, b, q⟩ := G.keyed e he
      simp [DictEntry.refKey, q]
    rw [this]; rfl
theorem Gd.put {es : List DictEntry} {k : Nat} {g : List (Str × Value)} (G : Gd es k g) (name : Str) (hsh : Int) (t : Tok) (v : Value) : Gd (putL name hsh (.str name t) v es) (k + 1) ((name, v) :: g) := by
  refine ⟨Nat.le_trans (putL_len _) (Nat.succ_le_succ G.len), putL_strs G.keyed, fun nm u h => ?_⟩
  rw [List.lookup_cons] at h
  cases q : nm == name with
  | true =>
    rw [q] at h
    cases h
    obtain rfl := eq_of_beq q
    exact getL_put_eq
  | false =>
    rw [q] at h
    exact getL_put_ne q (G.val _ _ h)
theorem Gd.skip {es : List DictEntry} {k : Nat} {g : List (Str × Value)} (G : Gd es k g) (name : Str) (hsh : Int) (t : Tok) (v : Value) (hn : g.lookup name = none) : Gd (putL name hsh (.str name t) v es) (k + 1) g := by
  refine ⟨(G.put name hsh t v).len, (G.put name hsh t v).keyed, fun nm u h => (G.put name hsh t v).val nm u ?_⟩
  rw [List.lookup_cons]
  cases q : nm == name with
  | true => rw [eq_of_beq q, hn] at h; cases h
  | false => exact h
/-- the names that are followed -/
def trk : List Str := [Str.ofString "kind", Str.ofString "number", Str.ofString "low", Str.ofString "high", Str.ofString "index", Str.ofString "is_constrained", Str.ofString "is_tagged"]
section
variable {prog : Program} {w : World} {A : Around} {E : Value → Shared → Prop} {s : Shared} {K : Frag} {h₀ : Heap} {L x dx C : Addr} {m : Str → Option Value} {name : Str} {v : Value} {es : List DictEntry} {n k : Nat} {g : List (Str × Value)} {Q : Unit → Shared → Prop}
theorem put_G {g' : List (Str × Value)} (F : Fr h₀ L s.heap m) (X₀ : K.In h₀) (N : News h₀ L s.heap [(x, instObj C dx), (dx, W.dictOf es n)]) (hne : x ≠ dx) (G : Gd es k g)
    (hs : findIn K (.ref C) "__setattr__" = some (some (.builtin "object.__setattr__"))) (hp : plainOver K C = true) (ht : takerIn K C name = some none) (hh : hasDictIn K C = true) (hk : Nat.ble k 900 = true)
    (hG : ∀ hsh t, Gd (putL name hsh (.str name t) v es) (k + 1) g')
    (h : ∀ h' es' n', Fr h₀ L h' m → News h₀ L h' [(x, instObj C dx), (dx, W.dictOf es' n')] → Gd es' (k + 1) g' → Q () { s with heap := h', toks := s.toks + 2 }) :
    wpAny (model prog w) A (setAttr (.ref x) name v) Q E s :=
  set_dict (es' := putL name (PyData.keyHash w.params name) (.str name (s.toks + 1)) v es) (n' := putN name es n) F X₀ N ⟨(N _ (.head _)).1, rfl, rfl, (N _ (.tail _ (.head _))).1⟩ rfl hs hp ht hh (G.some _) rfl
    (.tail hne (.head (fun _ q => absurd q List.not_mem_nil))) (Nat.le_trans (hG (PyData.keyHash w.params name) (s.toks + 1)).len (Nat.succ_le_of_lt (Nat.lt_of_le_of_lt (Nat.le_of_ble_eq_true hk) (by decide)))) fun h' F' N' => h h' _ _ F' N' (hG _ _)
theorem put_old (F : Fr h₀ L s.heap m) (X₀ : K.In h₀) (N : News h₀ L s.heap [(x, instObj C dx), (dx, W.dictOf es n)]) (hne : x ≠ dx) (G : Gd es k g) (h1 : trk.contains name = false) (h2 : g.lookup name = none)
    (hs : findIn K (.ref C) "__setattr__" = some (some (.builtin "object.__setattr__"))) (hp : plainOver K C = true) (ht : takerIn K C name = some none) (hh : hasDictIn K C = true) (hk : Nat.ble k 900 = true)
    (h : ∀ h' es' n', Fr h₀ L h' m → News h₀ L h' [(x, instObj C dx), (dx, W.dictOf es' n')] → Gd es' (k + 1) g → Q () { s with heap := h', toks := s.toks + 2 }) :
    wpAny (model prog w) A (setAttr (.ref x) name v) Q E s := put_G F X₀ N hne G hs hp ht hh hk (fun _ _ => G.skip _ _ _ _ h2) h
theorem put_new (F : Fr h₀ L s.heap m) (X₀ : K.In h₀) (N : News h₀ L s.heap [(x, instObj C dx), (dx, W.dictOf es n)]) (hne : x ≠ dx) (G : Gd es k g)
    (hs : findIn K (.ref C) "__setattr__" = some (some (.builtin "object.__setattr__"))) (hp : plainOver K C = true) (ht : takerIn K C name = some none) (hh : hasDictIn K C = true) (hk : Nat.ble k 900 = true)
    (h : ∀ h' es' n', Fr h₀ L h' m → News h₀ L h' [(x, instObj C dx), (dx, W.dictOf es' n')] → Gd es' (k + 1) ((name, v) :: g) → Q () { s with heap := h', toks := s.toks + 2 }) :
    wpAny (model prog w) A (setAttr (.ref x) name v) Q E s := put_G F X₀ N hne G hs hp ht hh hk (fun _ _ => G.put _ _ _ _) h
theorem news_tail {h : Heap} {p : Addr × Obj} {r : List (Addr × Obj)} (N : News h₀ L h (p :: r)) : News h₀ L h r := fun q hq => N q (.tail _ hq)
theorem put_keep {p : Addr × Obj} (F : Fr h₀ L s.heap m) (X₀ : K.In h₀) (N : News h₀ L s.heap [p, (x, instObj C dx), (dx, W.dictOf es n)]) (hne : x ≠ dx) (hpn : p.1 ≠ dx) (G : Gd es k g)
    (hs : findIn K (.ref C) "__setattr__" = some (some (.builtin "object.__setattr__"))) (hp : plainOver K C = true) (ht : takerIn K C name = some none) (hh : hasDictIn K C = true) (hk : Nat.ble k 900 = true)
    (h : ∀ h' es' n', Fr h₀ L h' m → News h₀ L h' [p, (x, instObj C dx), (dx, W.dictOf es' n')] → Gd es' (k + 1) ((name, v) :: g) → Q () { s with heap := h', toks := s.toks + 2 }) :
    wpAny (model prog w) A (setAttr (.ref x) name v) Q E s :=
  set_dict (es' := putL name (PyData.keyHash w.params name) (.str name (s.toks + 1)) v es) (n' := putN name es n) F X₀ N ⟨(N _ (.tail _ (.head _))).1, rfl, rfl, (N _ (.tail _ (.tail _ (.head _)))).1⟩ rfl hs hp ht hh (G.some _) rfl
    (.tail hpn (.tail hne (.head (fun _ q => absurd q List.not_mem_nil)))) (Nat.le_trans (G.put name (PyData.keyHash w.params name) (s.toks + 1) v).len (Nat.succ_le_of_lt (Nat.lt_of_le_of_lt (Nat.le_of_ble_eq_true hk) (by decide)))) fun h' F' N' => h h' _ _ F' N' (G.put _ _ _ _)
theorem ne_frame {h : Heap} (F : Fr h₀ L h m) (hx : h.get? x = none) : x ≠ L := fun q => by
  obtain ⟨o, _, _, ho, _⟩ := F.ns
  rw [q, ho] at hx; cases hx
/-- a made thing and its dict onto an empty ledger -/
theorem news_two {h h' : Heap} {o1 o2 : Obj} (F : Fr h₀ L h m) (hx : h.get? x = none) (hdx : h.get? dx = none) (e1 : h'.get? x = some o1) (e2 : h'.get? dx = some o2) : News h₀ L h' [(x, o1), (dx, o2)] := fun p hp => by
  rcases List.mem_cons.mp hp with rfl | hp
  · exact ⟨e1, ne_frame F hx, stays_none F.keep hx⟩
  · rw [List.mem_singleton.mp hp]
    exact ⟨e2, ne_frame F hdx, stays_none F.keep hdx⟩
theorem TyE.of {h : Heap} {kind : Str} {t : Tok} {lo hi iv : Value} {c : Bool} (e1 : h.get? x = some (instObj 229 dx)) (e2 : h.get? dx = some (W.dictOf es n)) (G : Gd es k g) (hk : Nat.ble k 30 = true)
    (g1 : g.lookup (Str.ofString "kind") = some (.str kind t)) (g2 : g.lookup (Str.ofString "low") = some lo) (g3 : g.lookup (Str.ofString "high") = some hi) (g4 : g.lookup (Str.ofString "index") = some iv) (g5 : g.lookup (Str.ofString "is_constrained") = some (.bool c)) (g6 : g.lookup (Str.ofString "is_tagged") = some (.bool false)) :
    TyE h x dx kind lo hi iv c es n :=
  ⟨e1, e2, Nat.le_trans G.len (Nat.le_of_ble_eq_true hk), ⟨_, G.val _ _ g1⟩, G.val _ _ g2, G.val _ _ g3, G.val _ _ g4, G.val _ _ g5, G.val _ _ g6, G.some _⟩
end
section
variable {w : World} {dp un : Nat} {fr : Option (List Env)} {gd : Option (List Code)} {E : Value → Shared → Prop} {s : Shared} {Q : Value → Shared → Prop} {mean : ExcName → Option Value} {mg mb : Str → Option Value}
/-- the ledger of what was made in a call, as one of the caller's -/
theorem news_up {h₀ h h' : Heap} {L L' : Addr} {m : Str → Option Value} {news : List (Addr × Obj)} (F : Fr h₀ L h m) (N : News h L' h' news) : News h₀ L h' news := fun p hp => by
  obtain ⟨a, b, c⟩ := N p hp
  refine ⟨a, fun z => ?_, stays_none F.keep c⟩
  obtain ⟨o, _, _, ho, _⟩ := F.ns
  rw [z, ho] at c; cases c
/-- what Type's own __init__ leaves -/
abbrev gType (kind : Str) (t t0 : Tok) (iv : Value) : List (Str × Value) := [(Str.ofString "is_tagged", .bool false), (Str.ofString "is_constrained", .bool true), (Str.ofString "index", iv), (Str.ofString "high", .none), (Str.ofString "low", .none), (Str.ofString "number", .int 0 t0), (Str.ofString "kind", .str kind t)]
local macro_rules | `(tactic| walk_at "setAttr ref") => `(tactic| (k_here; k_dflt (first
  | (refine' put_old ?k1 ?k2 ?k3 ?k4 ?k5 ?k6 ?k7 ?k8 ?k9 ?k10 ?k11 ?k12 ?_; (case k1 => k_asm); (case k2 => k_asm); (case k3 => first | with_reducible assumption | exact news_tail (by with_reducible assumption)); (case k4 => with_reducible assumption); (case k5 => with_reducible assumption); (case k6 => exact rfl); (case k7 => exact rfl); (case k8 => k_is); (case k9 => k_is); (case k10 => k_is); (case k11 => k_is); (case k12 => exact rfl); k_whole)
  | (refine' put_new ?k1 ?k2 ?k3 ?k4 ?k5 ?k8 ?k9 ?k10 ?k11 ?k12 ?_; (case k1 => k_asm); (case k2 => k_asm); (case k3 => first | with_reducible assumption | exact news_tail (by with_reducible assumption)); (case k4 => with_reducible assumption); (case k5 => with_reducible assumption); (case k8 => k_is); (case k9 => k_is); (case k10 => k_is); (case k11 => k_is); (case k12 => exact rfl); k_whole)); (try (with_reducible rename Gd _ _ _ => GX; clear GX)); intro h' es' n' F' N' G'; (try k_sweep)))
theorem type_ok (X : (hd.heap_39 w.params).In s.heap) (T : Top hd.view_39 (looseW hd.view_39 []) mean mg mb s.heap) (hdep : dp + 2 < recursionLimit) {kind nm : Str} {t tn : Tok}
    (hQ : ∀ h' tk x dx es n t0 iv, s.heap.StaysIn h' → s.heap.get? x = none → s.heap.get? dx = none → x ≠ dx → h'.get? x = some (instObj 229 dx) → h'.get? dx = some (W.dictOf es n) → Gd es 24 (gType kind t t0 iv) → Q (.ref x) { s with heap := h', toks := tk }) :
    wpAny (model PySem.Challenge.rw_xw0007_01.prog w) (Ar dp un fr gd) (call (.ref 229) [.str kind t, .str nm tn]) Q E s := by
  refine' new_inst (C := 229) (fI := 226) (fun x => [(Str.ofString "self", .ref x), (Str.ofString "kind", .str kind t), (Str.ofString "name", .str nm tn)]) X T.nolimit (by first | omega | walk_at "my room") ?hm ?hi ?hf ?ho ?hcd ?hb ?hl ?hc ?h1 ?h2 ?h3 ?_
  case hm => k_is
  case hi => k_is
  case hf => k_is
  case ho => k_is
  case hcd => k_is
  case hb => exact fun _ _ => BindsTo.of_eq rfl
  case hl => exact fun _ => locs rfl
  case hc => decide
  case h1 => rfl
  case h2 => rfl
  case h3 => rfl
  intro dp' un' fr' gd' x dx L h₁ tk hdx lt1 lt2 lt3 hdp F N
  have hne : x ≠ dx := Nat.ne_of_gt lt1
  have G := Gd.nil
  clear lt1 lt2 lt3 hdx
  k_steps
  with_reducible rename Fr _ _ _ _ => F2
  with_reducible rename News _ _ _ _ => N2
  with_reducible rename Gd _ _ _ => G2
  exact unhold ⟨rfl, hQ _ _ _ _ _ _ _ _ F2.keep (N2 _ (by k_mem)).2.2 (N2 _ (by k_mem)).2.2 hne (N2 (x, _) (by k_mem)).1 (N2 (dx, _) (by k_mem)).1 G2⟩
theorem int_type_ok (X : (hd.heap_39 w.params).In s.heap) (T : Top hd.view_39 (looseW hd.view_39 []) mean mg mb s.heap) (hdep : dp + 4 < recursionLimit) {nm : Str} {t : Tok} {lo hi : Value}
    (hQ : ∀ h' tk x dx iv es n, s.heap.StaysIn h' → s.heap.get? x = none → s.heap.get? dx = none → TyE h' x dx (Str.ofString "int") lo hi iv true es n → Q (.ref x) { s with heap := h', toks := tk }) :
    wpAny (model PySem.Challenge.rw_xw0007_01.prog w) (Ar dp un fr gd) (call (.ref 268) [.str nm t, lo, hi]) Q E s := by
  refine' enter [(Str.ofString "name", .str nm t), (Str.ofString "low", lo), (Str.ofString "high", hi)] X T.nolimit (by omega) ?ho ?hcd ?hb ?hl ?hc ?h1 ?h2 ?h3 ?_
  case ho => k_is
  case hcd => k_is
  case hb => exact BindsTo.of_eq rfl
  case hl => exact locs rfl
  case hc => decide
  case h1 => rfl
  case h2 => rfl
  case h3 => rfl
  intro L h₁ hL F N
  k_fold
  k_steps
  apply unhold
  with_reducible rename Fr _ _ _ _ => F1
  refine type_ok (X.keeps F1.keep) (T.keeps F1.keep) (by walk_at "my room") fun h2 tk2 x dx es n t0 iv hk2 hx hdx hne o1 o2 G => ?_
  have F2 := Fr.keeps F1 hk2
  have N2 := news_two F1 hx hdx o1 o2
  clear hx hdx o1 o2 hk2
  try clear N
  clear F1
  k_steps
  with_reducible rename Fr _ _ _ _ => F4
  with_reducible rename News _ _ _ _ => N4
  with_reducible rename Gd _ _ _ => G4
  exact hQ _ _ _ _ _ _ _ F4.keep (N4 (x, _) (by k_mem)).2.2 (N4 (dx, _) (by k_mem)).2.2 (TyE.of (h := _) (N4 (x, instObj 229 dx) (by k_mem)).1 (N4 (dx, _) (by k_mem)).1 G4 rfl rfl rfl rfl rfl rfl rfl)
theorem access_type_ok (X : (hd.heap_39 w.params).In s.heap) (T : Top hd.view_39 (looseW hd.view_39 []) mean mg mb s.heap) (hdep : dp + 4 < recursionLimit) {nm : Str} {t : Tok} {v : Value}
    (hQ : ∀ h' tk x dx lo hi iv es n, s.heap.StaysIn h' → s.heap.get? x = none → s.heap.get? dx = none → TyE h' x dx (Str.ofString "access") lo hi iv true es n → Q (.ref x) { s with heap := h', toks := tk }) :
    wpAny (model PySem.Challenge.rw_xw0007_01.prog w) (Ar dp un fr gd) (call (.ref 289) [.str nm t, v]) Q E s := by
  refine' enter [(Str.ofString "name", .str nm t), (Str.ofString "designated", v)] X T.nolimit (by omega) ?ho ?hcd ?hb ?hl ?hc ?h1 ?h2 ?h3 ?_
  case ho => k_is
  case hcd => k_is
  case hb => exact BindsTo.of_eq rfl
  case hl => exact locs rfl
  case hc => decide
  case h1 => rfl
  case h2 => rfl
  case h3 => rfl
  intro L h₁ hL F N
  k_fold
  k_steps
  apply unhold
  with_reducible rename Fr _ _ _ _ => F1
  refine type_ok (X.keeps F1.keep) (T.keeps F1.keep) (by walk_at "my room") fun h2 tk2 x dx es n t0 iv hk2 hx hdx hne o1 o2 G => ?_
  have F2 := Fr.keeps F1 hk2
  have N2 := news_two F1 hx hdx o1 o2
  clear hx hdx o1 o2 hk2
  try clear N
  clear F1
  k_steps
  with_reducible rename Fr _ _ _ _ => F4
  with_reducible rename News _ _ _ _ => N4
  with_reducible rename Gd _ _ _ => G4
  exact hQ _ _ _ _ _ _ _ _ _ F4.keep (N4 (x, _) (by k_mem)).2.2 (N4 (dx, _) (by k_mem)).2.2 (TyE.of (h := _) (N4 (x, instObj 229 dx) (by k_mem)).1 (N4 (dx, _) (by k_mem)).1 G4 rfl rfl rfl rfl rfl rfl rfl)
theorem record_type_ok (X : (hd.heap_39 w.params).In s.heap) (T : Top hd.view_39 (looseW hd.view_39 []) mean mg mb s.heap) (hdep : dp + 4 < recursionLimit) (hu : un + 80 < cLine) {nm : Str} {t : Tok} {dl cl : Addr} {vs : Array Value} (hd0 : s.heap.PlainList dl #[]) (hl : s.heap.PlainList cl vs) (hsz : vs.size ≤ 100)
    (hQ : ∀ h' tk x dx iv lo hi es n, s.heap.StaysIn h' → s.heap.get? x = none → s.heap.get? dx = none → TyE h' x dx (Str.ofString "record") lo hi iv true es n → Q (.ref x) { s with heap := h', toks := tk }) :
    wpAny (model PySem.Challenge.rw_xw0007_01.prog w) (Ar dp un fr gd) (call (.ref 282) [.str nm t, .ref dl, .ref cl, .none]) Q E s := by
  have hl2 := hl.isList
  have hd2 := hd0.isList
  have hsz2 : vs.size ≤ sizeLine := by rw [sizeLine]; omega
  refine' enter [(Str.ofString "name", .str nm t), (Str.ofString "discriminants", .ref dl), (Str.ofString "components", .ref cl), (Str.ofString "variant", .none)] X T.nolimit (by omega) ?ho ?hcd ?hb ?hl ?hc ?h1 ?h2 ?h3 ?_
  case ho => k_is
  case hcd => k_is
  case hb => exact BindsTo.of_eq rfl
  case hl => exact locs rfl
  case hc => decide
  case h1 => rfl
  case h2 => rfl
  case h3 => rfl
  intro L h₁ hL F N
  k_fold
  k_steps
  apply unhold
  with_reducible rename Fr _ _ _ _ => F1
  refine type_ok (X.keeps F1.keep) (T.keeps F1.keep) (by walk_at "my room") fun h2 tk2 x dx es n t0 iv hk2 hx hdx hne o1 o2 G => ?_
  have F2 := Fr.keeps F1 hk2
  have N2 := news_two F1 hx hdx o1 o2
  clear hx hdx o1 o2 hk2
  try clear N
  clear F1
  k_steps
  with_reducible rename Fr _ _ _ _ => F4
  with_reducible rename News _ _ _ _ => N4
  with_reducible rename Gd _ _ _ => G4
  exact hQ _ _ _ _ _ _ _ _ _ F4.keep (N4 (x, _) (by k_mem)).2.2 (N4 (dx, _) (by k_mem)).2.2 (TyE.of (h := _) (N4 (x, instObj 229 dx) (by k_mem)).1 (N4 (dx, _) (by k_mem)).1 G4 rfl rfl rfl rfl rfl rfl rfl)
local macro_rules | `(tactic| walk_at "setAttr ref") => `(tactic| (k_here; k_dflt (refine' put_keep ?k1 ?k2 ?k3 ?k4 ?k5 ?k6 ?k8 ?k9 ?k10 ?k11 ?k12 ?_; (case k1 => k_asm); (case k2 => k_asm); (case k3 => with_reducible assumption); (case k4 => with_reducible assumption); (case k5 => k_ne); (case k6 => with_reducible assumption); (case k8 => k_is); (case k9 => k_is); (case k10 => k_is); (case k11 => k_is); (case k12 => exact rfl); k_whole); (try (with_reducible rename Gd _ _ _ => GX; clear GX)); intro h' es' n' F' N' G'; (try k_sweep)))
theorem array_type_ok (X : (hd.heap_39 w.params).In s.heap) (T : Top hd.view_39 (looseW hd.view_39 []) mean mg mb s.heap) (hdep : dp + 4 < recursionLimit) {nm : Str} {t : Tok} {il : Addr} {vs : Array Value} {comp : Value} {c : Bool} (hl : s.heap.PlainList il vs) (hsz : vs.size ≤ 100)
    (hQ : ∀ h' tk x dx il' lo hi es n, s.heap.StaysIn h' → s.heap.get? x = none → s.heap.get? dx = none → h'.PlainList il' vs → il' ≠ dx → TyE h' x dx (Str.ofString "array") lo hi (.ref il') c es n → Q (.ref x) { s with heap := h', toks := tk }) :
    wpAny (model PySem.Challenge.rw_xw0007_01.prog w) (Ar dp un fr gd) (call (.ref 275) [.str nm t, .ref il, comp, .bool c]) Q E s := by
  have hl2 := hl.isList
  have hsz2 : vs.size ≤ sizeLine := by rw [sizeLine]; omega
  refine' enter [(Str.ofString "name", .str nm t), (Str.ofString "index", .ref il), (Str.ofString "component", comp), (Str.ofString "is_constrained", .bool c)] X T.nolimit (by omega) ?ho ?hcd ?hb ?hl ?hc ?h1 ?h2 ?h3 ?_
  case ho => k_is
  case hcd => k_is
  case hb => exact BindsTo.of_eq rfl
  case hl => exact locs rfl
  case hc => decide
  case h1 => rfl
  case h2 => rfl
  case h3 => rfl
  intro L h₁ hL F N
  k_fold
  k_steps
  apply unhold
  with_reducible rename Fr _ _ _ _ => F1
  refine type_ok (X.keeps F1.keep) (T.keeps F1.keep) (by walk_at "my room") fun h2 tk2 x dx es n t0 iv hk2 hx hdx hne o1 o2 G => ?_
  have F2 := Fr.keeps F1 hk2
  have N2 := news_two F1 hx hdx o1 o2
  clear hx hdx o1 o2 hk2
  try clear N
  clear F1
  k_steps
  with_reducible rename Fr _ _ _ _ => F4
  with_reducible rename News _ _ _ _ => N4
  with_reducible rename Gd _ _ _ => G4
  have e2 := (N4 (dx, _) (by k_mem)).1
  have e4 := (N4 _ (.head _)).1
  exact hQ _ _ _ _ _ _ _ _ _ F4.keep (N4 (x, _) (by k_mem)).2.2 (N4 (dx, _) (by k_mem)).2.2 ⟨_, e4⟩ (fun q => by rw [q, e2] at e4; simp [W.dictOf, W.listOf] at e4) (TyE.of (h := _) (N4 (x, instObj 229 dx) (by k_mem)).1 e2 G4 rfl rfl rfl rfl rfl rfl rfl)
end
section
variable {w : World} {dp un : Nat} {fr : Option (List Env)} {gd : Option (List Code)} {E : Value → Shared → Prop} {s : Shared} {Q : Value → Shared → Prop} {mean : ExcName → Option Value} {mg mb : Str → Option Value}
theorem numbered_ok {hw : Heap} (X : (hd.heap_39 w.params).In hw) (T : Top hd.view_39 (looseW hd.view_39 []) mean mg mb hw) (hws : hw.StaysIn s.heap) (hdep : dp + 2 < recursionLimit) {x dx : Addr} (hx : hw.get? x = none) (hdx : hw.get? dx = none)
    {kind : Str} {lo hi iv : Value} {c : Bool} {es : List DictEntry} {n : Nat} (H : TyE s.heap x dx kind lo hi iv c es n) {num : Int} {t : Tok}
    (hQ : ∀ h' tk, (∀ b o, b ≠ dx → s.heap.get? b = some o → h'.get? b = some o) → TyH h' x dx kind num lo hi iv c → Q (.ref x) { s with heap := h', toks := tk }) :
    wpAny (model PySem.Challenge.rw_xw0007_01.prog w) (Ar dp un fr gd) (call (.ref 296) [.ref x, .int num t]) Q E s := by
  have hb0 : (hideAll s.heap [x, dx]).StaysIn s.heap := fun x o e => of_hideAll _ e
  have hin : ∀ b o, s.heap.get? b = some o → b ∉ [x, dx] → (hideAll s.heap [x, dx]).get? b = some o := fun b o e hx => hideAll_get _ e hx
  have hout : ∀ b, b ∈ [x, dx] → (hideAll s.heap [x, dx]).get? b = none := fun b hb => hideAll_none _ hb
  have hsz0 : (hideAll s.heap [x, dx]).objs.size = s.heap.objs.size := hideAll_size _ _
  generalize hideAll s.heap [x, dx] = h0 at hb0 hin hout hsz0
  have hw0 : hw.StaysIn h0 := fun b o e => hin b o (hws _ _ e) fun hm => by
    simp only [List.mem_cons, List.not_mem_nil, or_false] at hm
    rcases hm with rfl | rfl
    · rw [e] at hx; cases hx
    · rw [e] at hdx; cases hdx
  have X0 := X.keeps hw0
  have T0 := T.keeps hw0
  clear X T
  have hne : x ≠ dx := fun q => by
    have h1 := H.obj
    have h2 := H.dict
    rw [q, h2] at h1; cases h1
  obtain ⟨H1, H2, H3, ⟨kt, H4⟩, H5, H6, H7, H8, H9, H10⟩ := H
  refine' enterG [(Str.ofString "t", .ref x), (Str.ofString "number", .int num t)] hb0 (Nat.le_of_eq hsz0) (news := [(x, instObj 229 dx), (dx, W.dictOf es n)]) (fun p hp => by simp only [List.mem_cons, List.not_mem_nil, or_false] at hp; rcases hp with rfl | rfl; exact ⟨H1, hout _ (by simp)⟩; exact ⟨H2, hout _ (by simp)⟩) X0 T0.nolimit (by omega) ?ho ?hcd ?hb ?hl ?hc ?h1 ?h2 ?h3 ?_
  case ho => k_is
  case hcd => k_is
  case hb => exact BindsTo.of_eq rfl
  case hl => exact locs rfl
  case hc => decide
  case h1 => rfl
  case h2 => rfl
  case h3 => rfl
  intro L h₁ hL hk1 F N
  k_fold
  k_steps
  refine' set_dict (es' := putL (Str.ofString "number") (PyData.keyHash w.params (Str.ofString "number")) (.str (Str.ofString "number") (tk + 1)) (.int num t) es) (n' := putN (Str.ofString "number") es n) F X0 N ⟨(N _ (.head _)).1, rfl, rfl, (N _ (.tail _ (.head _))).1⟩ rfl ?k6 ?k7 ?k8 ?k9 H10 rfl (.tail hne (.head (fun _ q => absurd q List.not_mem_nil))) ?hz ?_
  case k6 => k_is
  case k7 => k_is
  case k8 => k_is
  case k9 => k_is
  case hz => exact Nat.le_trans (putL_len _) (by omega)
  intro h2 F2 N2
  have e1 := (N2 _ (.head _)).1
  have e2 := (N2 _ (.tail _ (.head _))).1
  clear F N
  k_steps
  with_reducible rename Fr _ _ _ _ => F3
  with_reducible rename News _ _ _ _ => N3
  have e1 := (N3 _ (.head _)).1
  have e2 := (N3 _ (.tail _ (.head _))).1
  dsimp only
  refine hQ _ _ (fun b o hb e => ?_) ⟨⟨_, _, _, e1, e2, getL_put_ne (by decide) H4⟩, ⟨_, _, _, e1, e2, getL_put_eq⟩, ⟨_, _, e1, e2, getL_put_ne (by decide) H5⟩, ⟨_, _, e1, e2, getL_put_ne (by decide) H6⟩, ⟨_, _, e1, e2, getL_put_ne (by decide) H7⟩, ⟨_, _, e1, e2, getL_put_ne (by decide) H8⟩, ⟨_, _, e1, e2, getL_put_ne (by decide) H9⟩⟩
  by_cases q : b = x
  · subst q; rw [H1] at e; rw [e1]; exact e
  · exact F3.keep _ _ (hin b o e (by simp [q, hb]))
end
section
variable {w : World} {dp un : Nat} {fr : Option (List Env)} {gd : Option (List Code)} {E : Value → Shared → Prop} {s : Shared} {Q : Value → Shared → Prop} {mean : ExcName → Option Value} {mg mb : Str → Option Value}
theorem base_bounds_ok (X : (hd.heap_39 w.params).In s.heap) (T : Top hd.view_39 (looseW hd.view_39 []) mean mg mb s.heap) (hdep : dp + 2 < recursionLimit) {t : Tok}
    (hQ : ∀ h' tk p t1 t2 n, s.heap.StaysIn h' → s.heap.get? p = none → h'.get? p = some { cls := .type "tuple", data := .seq #[.int (-32768) t1, .int 32767 t2] n } → Q (.ref p) { s with heap := h', toks := tk }) :
    wpAny (model PySem.Challenge.rw_xw0007_01.prog w) (Ar dp un fr gd) (call (.ref 261) [.int 16 t]) Q E s := by
  refine' enter [(Str.ofString "width", .int 16 t)] X T.nolimit (by omega) ?ho ?hcd ?hb ?hl ?hc ?h1 ?h2 ?h3 ?_
  case ho => k_is
  case hcd => k_is
  case hb => exact BindsTo.of_eq rfl
  case hl => exact locs rfl
  case hc => decide
  case h1 => rfl
  case h2 => rfl
  case h3 => rfl
  intro L h₁ hL F N
  k_fold
  k_steps
  with_reducible rename Fr _ _ _ _ => F2
  with_reducible rename News _ _ _ _ => N2
  exact hQ _ _ _ _ _ _ F2.keep (N2 _ (.head _)).2.2 (N2 _ (.head _)).1
/-- a made thing's number is set: as seen from before it was made -/
theorem made_stays {h₀ h h' : Heap} {dx : Addr} (k : h₀.StaysIn h) (hd : h₀.get? dx = none) (k' : ∀ b o, b ≠ dx → h.get? b = some o → h'.get? b = some o) : h₀.StaysIn h' := fun b o e => k' b o (fun q => by rw [q, hd] at e; cases e) (k b o e)
theorem integer_ok (X : (hd.heap_39 w.params).In s.heap) (T : Top hd.view_39 (looseW hd.view_39 []) mean mg mb s.heap) (hdep : dp + 6 < recursionLimit) {t : Tok}
    (hQ : ∀ h' tk x dx iv t1 t2, s.heap.StaysIn h' → s.heap.get? dx = none → TyH h' x dx (Str.ofString "int") 5 (.int (-32768) t1) (.int 32767 t2) iv true → Q (.ref x) { s with heap := h', toks := tk }) :
    wpAny (model PySem.Challenge.rw_xw0007_01.prog w) (Ar dp un fr gd) (call (.ref 324) [.int 16 t]) Q E s := by
  refine' enter [(Str.ofString "width", .int 16 t)] X T.nolimit (by omega) ?ho ?hcd ?hb ?hl ?hc ?h1 ?h2 ?h3 ?_
  case ho => k_is
  case hcd => k_is
  case hb => exact BindsTo.of_eq rfl
  case hl => exact locs rfl
  case hc => decide
  case h1 => rfl
  case h2 => rfl
  case h3 => rfl
  intro L h₁ hL F N
  k_fold
  k_steps
  apply unhold
  refine base_bounds_ok (X.keeps F.keep) (T.keeps F.keep) (by walk_at "my room") fun h2 tk2 p t1 t2 n hk2 hp0 o2 => ?_
  have F2 := Fr.keeps F hk2
  have N2 := news_with (News.grown N hk2) o2 (fun q => by
    obtain ⟨o, _, _, ho, hd, _⟩ := F2.ns
    rw [← q, o2] at ho; cases ho; cases hd) (stays_none F.keep hp0)
  clear F N
  k_steps
  apply unhold
  with_reducible rename Fr _ _ _ _ => F3
  refine int_type_ok (X.keeps F3.keep) (T.keeps F3.keep) (by walk_at "my room") fun h4 tk4 x dx iv es n hk4 hx hdx Ty => ?_
  have N4 : News s.heap L h4 [] := News.nil
  have F4 := Fr.keeps F3 hk4
  k_steps
  apply unhold
  with_reducible rename Fr _ _ _ _ => F5
  exact numbered_ok (X.keeps F3.keep) (T.keeps F3.keep) hk4 (by walk_at "my room") hx hdx Ty fun h6 tk6 hk6 TH => hQ _ _ _ _ _ _ _ (made_stays (stays_trans F3.keep hk4) (stays_none F3.keep hdx) hk6) (stays_none F3.keep hdx) TH
theorem law_number_ok (X : (hd.heap_39 w.params).In s.heap) (T : Top hd.view_39 (looseW hd.view_39 []) mean mg mb s.heap) (hdep : dp + 8 < recursionLimit)
    (hQ : ∀ h' tk x dx iv t1 t2, s.heap.StaysIn h' → s.heap.get? dx = none → TyH h' x dx (Str.ofString "int") 5 (.int (-32768) t1) (.int 32767 t2) iv true → Q (.ref x) { s with heap := h', toks := tk }) :
    wpAny (model PySem.Challenge.rw_xw0007_01.prog w) (Ar dp un fr gd) (call (.ref 588) []) Q E s := by
  refine' enter [] X T.nolimit (by omega) ?ho ?hcd ?hb ?hl ?hc ?h1 ?h2 ?h3 ?_
  case ho => k_is
  case hcd => k_is
  case hb => exact BindsTo.of_eq rfl
  case hl => exact locs rfl
  case hc => decide
  case h1 => rfl
  case h2 => rfl
  case h3 => rfl
  intro L h₁ hL F N
  k_fold
  k_steps
  apply unhold
  with_reducible rename Fr _ _ _ _ => F3
  exact integer_ok (X.keeps F3.keep) (T.keeps F3.keep) (by walk_at "my room") fun h6 tk6 x dx iv t1 t2 hk6 hdx TH => hQ _ _ _ _ _ _ _ (stays_trans F3.keep hk6) (stays_none F3.keep hdx) TH
end
section
variable {w : World} {dp un : Nat} {fr : Option (List Env)} {gd : Option (List Code)} {E : Value → Shared → Prop} {s : Shared} {Q : Value → Shared → Prop} {mean : ExcName → Option Value} {mg mb : Str → Option Value}
theorem law_two_ok (X : (hd.heap_39 w.params).In s.heap) (T : Top hd.view_39 (looseW hd.view_39 []) mean mg mb s.heap) (hdep : dp + 8 < recursionLimit) {number : Value}
    (hQ : ∀ h' tk x, s.heap.StaysIn h' → Q (.ref x) { s with heap := h', toks := tk }) :
    wpAny (model PySem.Challenge.rw_xw0007_01.prog w) (Ar dp un fr gd) (call (.ref 595) [number]) Q E s := by
  refine' enter [(Str.ofString "number", number)] X T.nolimit (by omega) ?ho ?hcd ?hb ?hl ?hc ?h1 ?h2 ?h3 ?_
  case ho => k_is
  case hcd => k_is
  case hb => exact BindsTo.of_eq rfl
  case hl => exact locs rfl
  case hc => decide
  case h1 => rfl
  case h2 => rfl
  case h3 => rfl
  intro L h₁ hL F N
  k_fold
  k_steps
  apply unhold
  with_reducible rename Fr _ _ _ _ => F2
  with_reducible rename News _ _ _ _ => N2
  refine new_subtype (X.keeps F2.keep) (T.keeps F2.keep) (by walk_at "my room") fun h3 tk3 a3 dx3 Tw3 => ?_
  have F3 := Fr.keeps F2 Tw3.1
  have N3 := News.grown N2 Tw3.1
  clear F2 N2 Tw3
  k_steps
  apply unhold
  with_reducible rename Fr _ _ _ _ => F2
  with_reducible rename News _ _ _ _ => N2
  refine new_subtype (X.keeps F2.keep) (T.keeps F2.keep) (by walk_at "my room") fun h3 tk3 a3 dx3 Tw3 => ?_
  have F3 := Fr.keeps F2 Tw3.1
  have N3 := News.grown N2 Tw3.1
  clear F2 N2 Tw3
  k_steps
  apply unhold
  with_reducible rename Fr _ _ _ _ => F4
  with_reducible rename News _ _ _ _ => N4
  refine array_type_ok (X.keeps F4.keep) (T.keeps F4.keep) (by walk_at "my room") ⟨_, (N4 (_, _) (by k_mem)).1⟩ (by simp) fun h5 tk5 x dx il lo hi es n hk5 hx hdx hil hne Ty => ?_
  have F5 := Fr.keeps F4 hk5
  have N5 : News s.heap L h5 [] := News.nil
  clear N4
  k_steps
  apply unhold
  exact numbered_ok (X.keeps F4.keep) (T.keeps F4.keep) hk5 (by walk_at "my room") hx hdx Ty fun h6 tk6 hk6 TH => hQ _ _ _ (made_stays (stays_trans F4.keep hk5) (stays_none F4.keep hdx) hk6)
theorem law_to_ok (X : (hd.heap_39 w.params).In s.heap) (T : Top hd.view_39 (looseW hd.view_39 []) mean mg mb s.heap) (hdep : dp + 8 < recursionLimit) {number : Value}
    (hQ : ∀ h' tk x, s.heap.StaysIn h' → Q (.ref x) { s with heap := h', toks := tk }) :
    wpAny (model PySem.Challenge.rw_xw0007_01.prog w) (Ar dp un fr gd) (call (.ref 609) [number]) Q E s := by
  refine' enter [(Str.ofString "number", number)] X T.nolimit (by omega) ?ho ?hcd ?hb ?hl ?hc ?h1 ?h2 ?h3 ?_
  case ho => k_is
  case hcd => k_is
  case hb => exact BindsTo.of_eq rfl
  case hl => exact locs rfl
  case hc => decide
  case h1 => rfl
  case h2 => rfl
  case h3 => rfl
  intro L h₁ hL F N
  k_fold
  k_steps
  apply unhold
  with_reducible rename Fr _ _ _ _ => F2
  with_reducible rename News _ _ _ _ => N2
  refine new_subtype (X.keeps F2.keep) (T.keeps F2.keep) (by walk_at "my room") fun h3 tk3 a3 dx3 Tw3 => ?_
  have F3 := Fr.keeps F2 Tw3.1
  have N3 := News.grown N2 Tw3.1
  clear F2 N2 Tw3
  k_steps
  apply unhold
  with_reducible rename Fr _ _ _ _ => F4
  with_reducible rename News _ _ _ _ => N4
  refine access_type_ok (X.keeps F4.keep) (T.keeps F4.keep) (by walk_at "my room") fun h5 tk5 x dx lo hi iv es n hk5 hx hdx Ty => ?_
  have F5 := Fr.keeps F4 hk5
  have N5 : News s.heap L h5 [] := News.nil
  clear N4
  k_steps
  apply unhold
  exact numbered_ok (X.keeps F4.keep) (T.keeps F4.keep) hk5 (by walk_at "my room") hx hdx Ty fun h6 tk6 hk6 TH => hQ _ _ _ (made_stays (stays_trans F4.keep hk5) (stays_none F4.keep hdx) hk6)
theorem law_deep_ok (X : (hd.heap_39 w.params).In s.heap) (T : Top hd.view_39 (looseW hd.view_39 []) mean mg mb s.heap) (hdep : dp + 8 < recursionLimit) (hu : un + 100 < cLine) {two : Value}
    (hQ : ∀ h' tk x dx iv lo hi, s.heap.StaysIn h' → s.heap.get? dx = none → TyH h' x dx (Str.ofString "record") 91 lo hi iv true → Q (.ref x) { s with heap := h', toks := tk }) :
    wpAny (model PySem.Challenge.rw_xw0007_01.prog w) (Ar dp un fr gd) (call (.ref 602) [two]) Q E s := by
  refine' enter [(Str.ofString "two", two)] X T.nolimit (by omega) ?ho ?hcd ?hb ?hl ?hc ?h1 ?h2 ?h3 ?_
  case ho => k_is
  case hcd => k_is
  case hb => exact BindsTo.of_eq rfl
  case hl => exact locs rfl
  case hc => decide
  case h1 => rfl
  case h2 => rfl
  case h3 => rfl
  intro L h₁ hL F N
  k_fold
  k_steps
  apply unhold
  with_reducible rename Fr _ _ _ _ => F2
  with_reducible rename News _ _ _ _ => N2
  refine new_subtype (X.keeps F2.keep) (T.keeps F2.keep) (by walk_at "my room") fun h3 tk3 a3 dx3 Tw3 => ?_
  have F3 := Fr.keeps F2 Tw3.1
  have N3 := News.grown N2 Tw3.1
  clear F2 N2 Tw3
  k_steps
  apply unhold
  with_reducible rename Fr _ _ _ _ => F4
  with_reducible rename News _ _ _ _ => N4
  refine record_type_ok (X.keeps F4.keep) (T.keeps F4.keep) (by walk_at "my room") (by walk_at "my room") ⟨_, (N4 (_, _) (by k_mem)).1⟩ ⟨_, (N4 (_, _) (by k_mem)).1⟩ (by simp) fun h5 tk5 x dx iv lo hi es n hk5 hx hdx Ty => ?_
  have F5 := Fr.keeps F4 hk5
  have N5 : News s.heap L h5 [] := News.nil
  clear N4
  k_steps
  apply unhold
  exact numbered_ok (X.keeps F4.keep) (T.keeps F4.keep) hk5 (by walk_at "my room") hx hdx Ty fun h6 tk6 hk6 TH => hQ _ _ _ _ _ _ _ (made_stays (stays_trans F4.keep hk5) (stays_none F4.keep hdx) hk6) (stays_none F4.keep hdx) TH
theorem law_part_ok (X : (hd.heap_39 w.params).In s.heap) (T : Top hd.view_39 (looseW hd.view_39 []) mean mg mb s.heap) (hdep : dp + 8 < recursionLimit) (hu : un + 100 < cLine) {number two to deep : Value}
    (hQ : ∀ h' tk x dx iv lo hi, s.heap.StaysIn h' → s.heap.get? dx = none → TyH h' x dx (Str.ofString "record") 93 lo hi iv true → Q (.ref x) { s with heap := h', toks := tk }) :
    wpAny (model PySem.Challenge.rw_xw0007_01.prog w) (Ar dp un fr gd) (call (.ref 616) [number, two, to, deep]) Q E s := by
  refine' enter [(Str.ofString "number", number), (Str.ofString "two", two), (Str.ofString "to", to), (Str.ofString "deep", deep)] X T.nolimit (by omega) ?ho ?hcd ?hb ?hl ?hc ?h1 ?h2 ?h3 ?_
  case ho => k_is
  case hcd => k_is
  case hb => exact BindsTo.of_eq rfl
  case hl => exact locs rfl
  case hc => decide
  case h1 => rfl
  case h2 => rfl
  case h3 => rfl
  intro L h₁ hL F N
  k_fold
  k_steps
  apply unhold
  with_reducible rename Fr _ _ _ _ => F2
  with_reducible rename News _ _ _ _ => N2
  refine new_subtype (X.keeps F2.keep) (T.keeps F2.keep) (by walk_at "my room") fun h3 tk3 a3 dx3 Tw3 => ?_
  have F3 := Fr.keeps F2 Tw3.1
  have N3 := News.grown N2 Tw3.1
  clear F2 N2 Tw3
  k_steps
  apply unhold
  with_reducible rename Fr _ _ _ _ => F2
  with_reducible rename News _ _ _ _ => N2
  refine new_subtype (X.keeps F2.keep) (T.keeps F2.keep) (by walk_at "my room") fun h3 tk3 a3 dx3 Tw3 => ?_
  have F3 := Fr.keeps F2 Tw3.1
  have N3 := News.grown N2 Tw3.1
  clear F2 N2 Tw3
  k_steps
  apply unhold
  with_reducible rename Fr _ _ _ _ => F2
  with_reducible rename News _ _ _ _ => N2
  refine new_subtype (X.keeps F2.keep) (T.keeps F2.keep) (by walk_at "my room") fun h3 tk3 a3 dx3 Tw3 => ?_
  have F3 := Fr.keeps F2 Tw3.1
  have N3 := News.grown N2 Tw3.1
  clear F2 N2 Tw3
  k_steps
  apply unhold
  with_reducible rename Fr _ _ _ _ => F2
  with_reducible rename News _ _ _ _ => N2
  refine new_subtype (X.keeps F2.keep) (T.keeps F2.keep) (by walk_at "my room") fun h3 tk3 a3 dx3 Tw3 => ?_
  have F3 := Fr.keeps F2 Tw3.1
  have N3 := News.grown N2 Tw3.1
  clear F2 N2 Tw3
  k_steps
  apply unhold
  with_reducible rename Fr _ _ _ _ => F4
  with_reducible rename News _ _ _ _ => N4
  refine record_type_ok (X.keeps F4.keep) (T.keeps F4.keep) (by walk_at "my room") (by walk_at "my room") ⟨_, (N4 (_, _) (by k_mem)).1⟩ ⟨_, (N4 (_, _) (by k_mem)).1⟩ (by simp) fun h5 tk5 x dx iv lo hi es n hk5 hx hdx Ty => ?_
  have F5 := Fr.keeps F4 hk5
  have N5 : News s.heap L h5 [] := News.nil
  clear N4
  k_steps
  apply unhold
  exact numbered_ok (X.keeps F4.keep) (T.keeps F4.keep) hk5 (by walk_at "my room") hx hdx Ty fun h6 tk6 hk6 TH => hQ _ _ _ _ _ _ _ (made_stays (stays_trans F4.keep hk5) (stays_none F4.keep hdx) hk6) (stays_none F4.keep hdx) TH
end
/-- index subtypes, their dicts within P -/
def IdxP (P : Addr → Prop) (h : Heap) (whole : Addr) : List Value → List (Int × Int) → Prop
  | [], [] => True
  | v :: vs, b :: bs => (∃ a dx c t t1 t2 n, v = .ref a ∧ P dx ∧ Has h a dx 250 (Str.ofString "type") (.ref whole) ∧ Has h a dx 250 (Str.ofString "constraint") (.ref c) ∧ h.get? c = some { cls := .type "tuple", data := .seq #[.str (Str.ofString "range") t, .int b.1 t1, .int b.2 t2] n }) ∧ IdxP P h whole vs bs
  | _, _ => False
theorem IdxP.keep {P : Addr → Prop} {h h' : Heap} {whole : Addr} (k : ∀ b o, h.get? b = some o → (Soft o ∨ P b) → h'.get? b = some o) : ∀ {vs : List Value} {bs : List (Int × Int)}, IdxP P h whole vs bs → IdxP P h' whole vs bs
  | [], [], _ => trivial
  | _ :: _, _ :: _, ⟨⟨a, dx, c, t, t1, t2, n, e, p, x, y, z⟩, r⟩ => ⟨⟨a, dx, c, t, t1, t2, n, e, p, x.keep (fun o q sf => k _ o q (.inl sf)) (fun o q => k _ o q (.inr p)), y.keep (fun o q sf => k _ o q (.inl sf)) (fun o q => k _ o q (.inr p)), k _ _ z (.inl soft_tup)⟩, r.keep k⟩
theorem IdxP.idx {P : Addr → Prop} {h : Heap} {whole : Addr} : ∀ {vs : List Value} {bs : List (Int × Int)}, IdxP P h whole vs bs → IdxL h whole vs bs
  | [], [], _ => trivial
  | _ :: _, _ :: _, ⟨⟨a, dx, c, t, t1, t2, n, e, _, x, y, z⟩, r⟩ => ⟨⟨a, c, t, t1, t2, n, e, ⟨dx, x, y⟩, z⟩, r.idx⟩
theorem IdxP.snoc {P : Addr → Prop} {h : Heap} {whole a dx c : Addr} {b : Int × Int} {t t1 t2 : Tok} {n : Nat} : ∀ {vs : List Value} {bs : List (Int × Int)}, IdxP P h whole vs bs → P dx → Has h a dx 250 (Str.ofString "type") (.ref whole) → Has h a dx 250 (Str.ofString "constraint") (.ref c) → h.get? c = some { cls := .type "tuple", data := .seq #[.str (Str.ofString "range") t, .int b.1 t1, .int b.2 t2] n } → IdxP P h whole (vs ++ [.ref a]) (bs ++ [b])
  | [], [], _, p, x, y, z => ⟨⟨a, dx, c, t, t1, t2, n, rfl, p, x, y, z⟩, trivial⟩
  | _ :: _, _ :: _, ⟨q, r⟩, p, x, y, z => ⟨q, r.snoc p x y z⟩
theorem IdxP.imp {P P' : Addr → Prop} {h : Heap} {whole : Addr} (k : ∀ x, P x → P' x) : ∀ {vs : List Value} {bs : List (Int × Int)}, IdxP P h whole vs bs → IdxP P' h whole vs bs
  | [], [], _ => trivial
  | _ :: _, _ :: _, ⟨⟨a, dx, c, t, t1, t2, n, e, p, x, y, z⟩, r⟩ => ⟨⟨a, dx, c, t, t1, t2, n, e, k _ p, x, y, z⟩, r.imp k⟩
/-- index subtypes made since h₀ -/
def IdxF (h₀ h : Heap) (l whole : Addr) (bs : List (Int × Int)) : Prop := ∃ vs, h.PlainList l vs ∧ IdxP (fun x => h₀.get? x = none) h whole vs.toList bs
theorem kept_one {h₀ h h' : Heap} {K c : Addr} {oc : Obj} {D : Addr × Obj} {gl : List (Addr × Obj)} {m' : Str → Option Value} (F : Fr h₀ K h' m') (back : ∀ h' m', Fr h₀ K h' m' → News h₀ K h' gl → ∀ b o, h.get? b = some o → b ≠ K → (∀ p ∈ [(c, oc)], p.1 ≠ b) → h'.get? b = some o) (ec : h.get? c = some oc) (N : News h₀ K h' (D :: (c, oc) :: gl)) :
    ∀ b o, h.get? b = some o → b ≠ K → h'.get? b = some o := fun b o e hb2 => by
  by_cases q : b = c
  · subst q
    rw [ec] at e
    rw [← e]
    exact (N _ (.tail _ (.head _))).1
  · exact back _ _ F (news_sub N fun p hp => .tail _ (.tail _ hp)) b o e hb2 (fun p hp => by
      rw [List.mem_singleton.mp hp]
      exact Ne.symm q)
section
theorem lines_LType_1 : True := by
  k_with "exec Assign" => (k_here; (with_reducible show wpAny _ _ (exec (Stmt.Assign [_] (PySem.Expr.ListComp _ _ _ _) _) _) _ _ _); refine hold ?_)
  trivial
theorem lines_LType_2 : True := by
  k_with "exec Assign cons ListComp" => (k_here; (with_reducible show wpAny _ _ (exec (Stmt.Assign [_] (PySem.Expr.ListComp _ _ _ _) _) _) _ _ _); refine hold ?_)
  trivial
variable {w : World} {dp un : Nat} {fr : Option (List Env)} {gd : Option (List Code)} {E : Value → Shared → Prop} {s : Shared} {Q : Value → Shared → Prop} {mean : ExcName → Option Value} {mg mb : Str → Option Value}
theorem law_type_ok (X : (hd.heap_39 w.params).In s.heap) (T : Top hd.view_39 (looseW hd.view_39 []) mean mg mb s.heap) (hdep : dp + 8 < recursionLimit) {whole l comp : Addr} {bs : List (Int × Int)} {num : Int} {t : Tok} (H : PairsAt s.heap l bs) (hb : bs.length ≤ 100)
    (hQ : ∀ h' tk x dx il lo hi, s.heap.StaysIn h' → s.heap.get? dx = none → TyH h' x dx (Str.ofString "array") num lo hi (.ref il) false → IdxF s.heap h' il whole bs → Q (.ref x) { s with heap := h', toks := tk }) :
    wpAny (model PySem.Challenge.rw_xw0007_01.prog w) (Ar dp un fr gd) (call (.ref 633) [.ref whole, .ref l, .ref comp, .int num t]) Q E s := by
  obtain ⟨vs, P1, P2⟩ := H
  have lb : vs.size = bs.length := by
    have := P2.length
    rwa [Array.length_toList] at this
  have vsz : vs.size ≤ sizeLine := by rw [lb, sizeLine]; omega
  have P3 := P1.isList
  refine' enterC [(Str.ofString "whole", .ref whole), (Str.ofString "spans", .ref l), (Str.ofString "component", .ref comp), (Str.ofString "number", .int num t)] X T.nolimit (by omega) ?ho ?hcd ?hb ?hl ?hc ?h1 ?h2 ?h3 ?_
  case ho => k_is
  case hcd => k_is
  case hb => exact BindsTo.of_eq rfl
  case hl => exact rfl
  case hc => decide +kernel
  case h1 => rfl
  case h2 => rfl
  case h3 => rfl
  intro L h₁ tk cells' hL F N Y'
  k_cells Y'
  simp only [List.cons_append, List.nil_append, List.append_nil] at N
  with_reducible rename _ = Data.cell _ => d1
  with_reducible rename Obj => oc
  have hc1 := N _ (.head _)
  k_steps
  apply unhold
  refine' comp_pairs_as (cl := [(Str.ofString "whole", L + 1)]) ?hsw ?hy ?hp ?hh ?hclos ?hcell ?hkind ?hnames ?hx ?hx2 ?hxx ?h ?hs
  case hsw => with_unfolding_all rfl
  case hy => rfl
  case hp => rfl
  case hh => rfl
  case hclos => rfl
  case hcell => decide
  case hkind => rfl
  case hnames => decide
  case hx => rfl
  case hx2 => rfl
  case hxx => decide
  case hs => intro x; rfl
  k_steps
  apply unhold
  refine ⟨l, vs, rfl, P3.at fun o e => F.keep _ _ e, vsz, fun v hv => ?_, fun hh K e hK => ?_⟩
  · obtain ⟨p, a, b, e1, e2⟩ := P2.tups v hv
    exact ⟨p, a, b, e1, e2.at fun o e => F.keep _ _ e⟩
  obtain rfl : h₁ = hh := e
  have hLK : @LT.lt Nat _ L K := by rw [hK]; exact F.ns.lt
  have hnsL := F.ns
  refine ⟨fun i ys h => IdxP (fun x => (x ≠ K ∧ x ≠ K + 1 ∧ x ≠ K + 2 ∧ x ≠ L) ∧ s.heap.get? x = none) h whole ys (bs.take i), trivial, fun i ys h h' x k => x.keep fun b o e hb => k b o e (hb.imp id fun ⟨⟨a, b, c, _⟩, _⟩ => ⟨a, b, c⟩), ?_, ?_⟩
  · intro i p a b ys h3 g3 d3 t3 os3 m₃ hv ht hI hns hm1 hm2 hsz hlv hk
    obtain ⟨c, t1, t2, hc, rfl, rfl⟩ := (P2.keep fun b o e _ => F.keep _ _ e).at (by simpa using hv) ht
    have FC : Fr s.heap (K + 2) h3 m₃ := ⟨hns, fun b o e => hk b o (F.keep b o e), Nat.le_trans F.above (by have := hLK; exact Nat.le_of_lt (Nat.lt_of_lt_of_le this (Nat.le_add_right _ _)))⟩
    have NC : News s.heap (K + 2) h3 [(L + 1, oc)] := by
      intro p hp
      rw [List.mem_singleton.mp hp]
      exact ⟨hk _ _ hc1.1, neN (by have := ltN (Heap.lt_size hc1.1); dsimp only at this ⊢; omega), hc1.2.2⟩
    obtain ⟨gl, NG, hdis, back⟩ := snap FC NC
    have ec := (NC _ (.head _)).1
    replace NG : News s.heap (K + 2) h3 ((L + 1, oc) :: gl) := NG
    clear NC F N
    k_steps
    apply unhold
    with_reducible rename Fr _ _ _ _ => F4
    with_reducible rename News _ _ _ _ => N4
    refine new_subtype (X.keeps F4.keep) (T.keeps F4.keep) (by walk_at "my room") fun h5 tk5 a5 dx5 Tw5 => ?_
    try k_unfold
    have kept := kept_one F4 back ec N4
    refine ⟨_, _, rfl, fun b o _ hb e => Tw5.1 _ _ (kept b o e hb), ⟨_, F4.ns.keeps Tw5.1⟩, ?_⟩
    show IdxP _ _ _ _ _
    rw [take_snoc hc]
    refine IdxP.snoc (hI.keep fun b o e hb => Tw5.1 _ _ (kept b o e ?_)) ⟨⟨?_, ?_, ?_, ?_⟩, stays_none F4.keep Tw5.2.1⟩ Tw5.2.2.1 Tw5.2.2.2 (Tw5.1 _ _ (N4 _ (.head _)).1)
    · rcases hb with sf | hb
      · exact fun q => not_soft_ns hns (q ▸ e) sf
      · exact hb.1.2.2.1
    · obtain ⟨o, e⟩ := hlv K (.inl rfl)
      exact (fresh_ne (kept _ _ e (neN (by omega))) Tw5.2.1).symm
    · obtain ⟨o, e⟩ := hlv (K + 1) (.inr (.inl rfl))
      exact (fresh_ne (kept _ _ e (neN (by omega))) Tw5.2.1).symm
    · obtain ⟨o, _, _, e, _⟩ := F4.ns
      exact (fresh_ne e Tw5.2.1).symm
    · obtain ⟨o, _, _, e, _⟩ := hnsL
      exact (fresh_ne (kept _ _ (hk _ _ e) (neN (by have := ltN hLK; omega))) Tw5.2.1).symm
  · intro h' tk' ys hpl hsz hI hk hC
    rw [lb, List.take_length] at hI
    obtain ⟨mC, hC⟩ := hC
    have FR := Fr.keeps F hk
    have hL0 : s.heap.get? L = none := Heap.get?_none_of_le F.above
    refine ⟨_, FR.ns, neN (show L ≠ K + 2 by have := ltN hLK; omega), fun h'' tk'' hn hk'' => ?_⟩
    have hk3 : ∀ b o, b ≠ L → b ≠ K + 2 → h'.get? b = some o → h''.get? b = some o := hk''
    have F5 : Fr s.heap L h'' _ := ⟨hn, fun b o e => hk3 b o (fun q => by rw [q, hL0] at e; cases e) (neN (by have h1 := ltN (Heap.lt_size e); have h2 := ltN (Nat.lt_of_lt_of_le h1 F.above); have := ltN hLK; omega)) (FR.keep b o e), F.above⟩
    have hpl5 := hpl.at (h' := h'') fun o e => hk3 _ o (neN (by have := ltN hLK; omega)) (neN (by omega)) e
    have hI5 := hI.keep (h' := h'') fun b o e hb => hk3 b o (fun q => hb.elim (fun sf => not_soft_ns FR.ns (q ▸ e) sf) fun z => z.1.2.2.2 q) (fun q => hb.elim (fun sf => not_soft_ns hC (q ▸ e) sf) fun z => z.1.2.2.1 q) e
    obtain ⟨gl, NG, back⟩ := snapAll F5
    clear F N FR
    k_steps
    apply unhold
    refine new_subtype (X.keeps F5.keep) (T.keeps F5.keep) (by walk_at "my room") fun h6 tk6 a6 dx6 Tw6 => ?_
    have F6 := Fr.keeps F5 Tw6.1
    have N6 : News s.heap L h6 [] := News.nil
    clear NG F5
    k_steps
    apply unhold
    with_reducible rename Fr _ _ _ _ => F8
    refine array_type_ok (X.keeps F8.keep) (T.keeps F8.keep) (by walk_at "my room") (hpl5.at fun o e => Tw6.1 _ _ e) (by omega) fun h7 tk7 x dx il lo hi es n hk7 hx hdx hil hne Ty => ?_
    have F7 := Fr.keeps F8 hk7
    have N7 : News s.heap L h7 [] := News.nil
    k_steps
    apply unhold
    exact numbered_ok (X.keeps F8.keep) (T.keeps F8.keep) hk7 (by walk_at "my room") hx hdx Ty fun h9 tk9 hk9 TH => hQ _ _ _ _ _ _ _ (made_stays (stays_trans F8.keep hk7) (stays_none F8.keep hdx) hk9) (stays_none F8.keep hdx) TH ⟨ys, hil.at fun o e => hk9 _ o hne e, (hI5.keep fun b o e _ => made_stays (stays_trans Tw6.1 hk7) (stays_none Tw6.1 hdx) hk9 _ _ e).imp fun x hx => hx.2⟩
end
theorem lines_LType_3 : True := by
  k_with_none
  k_with "eval ListComp" => (refine hold ?_)
  k_with "exec For" => (refine hold ?_)
  k_with "exec For Name Attribute cons nil" => (refine hold ?_)
  k_with "exec For Name Name cons nil" => (refine hold ?_)
  k_with "exec For Name Call cons nil" => (refine hold ?_)
  k_with "exec For Tuple Name cons nil" => (refine hold ?_)
  k_with "getAttr ref" => (k_here; k_dflt (refine' get_has (by k_asm) (by k_asm) (by with_reducible assumption) (by k_is) (by k_is) (by k_is) (by k_is) (by exact rfl) ?_; k_whole))
  k_with "my comp" => (
  (case hh => rfl); (case hclos => exact closureFor_none (by decide)); (case hcell => decide); (case hkind => rfl); (case hnames => decide); (case hx => rfl); (case hs => intro x; rfl))
  k_with "my room" => first | omega | (dsimp only [Around.deeper, Around.in1]; omega)
  k_with "call ref" => (refine hold ?_)
  k_with "subscriptTail" => (k_here; (with_reducible show wpAny _ _ (subscriptTail _ _ (Value.ref _) (Value.str _ _)) _ _ _); k_dflt (refine' sub_dict (by k_asm) (by with_reducible assumption) (by with_reducible assumption) ?_; k_whole))
  k_with "subscriptTail" => (k_here; (with_reducible show wpAny _ _ (subscriptTail _ _ (Value.ref _) (Value.str _ _)) _ _ _); k_dflt (refine' sub_dictN (by k_asm) (by first | k_mem | (simp; done)) (by with_reducible assumption) (by with_reducible assumption) ?_; k_whole))
  k_with "exec Raise some none" => (k_here; (with_reducible show wpAny _ _ (exec (Stmt.Raise (some _) none _) _) _ _ _); refine raise_obj rfl ?_)
  k_with "my pairs" => (
  (case hh => rfl); (case hclos => exact closureFor_none (by decide)); (case hcell => decide); (case hkind => rfl); (case hnames => decide); (case hx => rfl); (case hx2 => rfl); (case hxx => decide); (case hs => intro x; rfl))
  k_with "subscriptTail" => (k_here; (with_reducible show wpAny _ _ (subscriptTail _ _ (Value.ref _) (Value.int _ _)) _ _ _); k_dflt (refine' sub_list (by k_asm) (by with_reducible assumption) (by with_reducible assumption) (by omega) ?_; k_whole))
  k_with "call type:range" => (refine hold ?_)
  k_with "my look" => first | with_reducible assumption | (simp +decide only [↓reduceIte]; with_reducible assumption)
  k_with "eval Name" => (k_here; (fail_if_success (with_reducible show wpAny _ _ (eval _ (compEnvC _ _ _ _)) _ _ _)); k_dflt (refine' ld (by k_asm) (by walk_at "my look") ?_; k_whole))
  k_with "exec" => (k_here; (with_reducible show wpAny _ _ (exec (Stmt.While _ _ [] _) _) _ _ _); refine while_out ?_)
  k_with "isTrue UnaryOp" => (k_here; (refine isTrue_not ?_); k_dflt (refine isTrue_plain ?_; refine Call_ ?_))
  k_with "exec Try" => (k_here; refine wpAny_Try_except ?_)
  trivial
/-- the law's body and scope, as the written part has them -/
def lawFn : { p : List Stmt × Scope // ∀ w : World, ∃ params, (hd.heap_39 w.params).lookup 697 = some ⟨.type "function", none, .func (fnX (Str.ofString "law") (Str.ofString "law") params p.1 p.2 [] .none .none .none (.str (Str.ofString "law_xw0007_01") 987) none (.ref 696) .none), #[]⟩ } := ⟨(_, _), fun w => ⟨_, by k_is⟩⟩
def lawBody : List Stmt := lawFn.1.1
def lawScope : Scope := lawFn.1.2
abbrev lawEnv (L fa : Addr) (cd : Value) : Env := envOfC (Str.ofString "law") lawScope L fa cd
def lawRest (k : Nat) : List Stmt := lawBody.drop k
theorem law_len : lawBody.length = 26 := rfl
theorem ghost {base h : Heap} {L : Addr} {m : Str → Option Value} {cs : List (Addr × Obj)} (F : Fr base L h m) (N : News base L h cs) : ∃ hm gl, base.StaysIn hm ∧ hm.StaysIn h ∧ (∀ b o, h.get? b = some o → b ∉ L :: cs.map (·.1) → hm.get? b = some o) ∧
    (∀ x ∈ L :: cs.map (·.1), hm.get? x = none) ∧ News base L h (cs ++ gl) ∧ (∀ p ∈ gl, ∀ q ∈ cs, p.1 ≠ q.1) ∧ (∀ h' m', Fr base L h' m' → News base L h' gl → hm.StaysIn h') ∧ ∀ b o, hm.get? b = some o → base.get? b = some o ∨ (b, o) ∈ gl := by
  classical
  have hb0 : ∀ x o, (hideAll h (L :: cs.map (·.1))).get? x = some o → h.get? x = some o := fun x o e => of_hideAll _ e
  have hin : ∀ x o, h.get? x = some o → x ∉ L :: cs.map (·.1) → (hideAll h (L :: cs.map (·.1))).get? x = some o := fun x o e hx => hideAll_get _ e hx
  have hout : ∀ x, x ∈ L :: cs.map (·.1) → (hideAll h (L :: cs.map (·.1))).get? x = none := fun x hx => hideAll_none _ hx
  generalize hideAll h (L :: cs.map (·.1)) = hm at hb0 hin hout
  have hbs : base.StaysIn hm := fun x o e => hin x o (F.keep _ _ e) fun hx => by
    rcases List.mem_cons.mp hx with rfl | hx
    · have := Heap.lt_size e
      exact Nat.lt_irrefl _ (Nat.lt_of_lt_of_le this F.above)
    · obtain ⟨p, hp, rfl⟩ := List.mem_map.mp hx
      rw [(N p hp).2.2] at e; cases e
  let f : Nat → Option (Addr × Obj) := fun b => match hm.get? b with
    | some o => if base.get? b = none then some (b, o) else none
    | none => none
  have hf : ∀ b p, f b = some p → p.1 = b ∧ hm.get? b = some p.2 ∧ base.get? b = none := by
    intro b p e
    simp only [f] at e
    split at e
    · rename_i o ho
      split at e
      · rename_i hc
        cases e
        exact ⟨rfl, ho, hc⟩
      · cases e
    · cases e
  have cov : ∀ b o, hm.get? b = some o → base.get? b = some o ∨ (b, o) ∈ (List.range hm.objs.size).filterMap f := fun b o e => by
    cases h0 : base.get? b with
    | some o' =>
      have := hbs _ _ h0
      rw [e] at this
      exact .inl this.symm
    | none =>
      refine .inr (List.mem_filterMap.mpr ⟨b, List.mem_range.mpr (Heap.lt_size e), ?_⟩)
      simp only [f, e]
      rw [if_pos h0]
  refine ⟨hm, (List.range hm.objs.size).filterMap f, hbs, hb0, hin, hout, fun p hp => ?_, fun p hp q hq => ?_, fun h' m' F' N' x o e => ?_, cov⟩
  · rcases List.mem_append.mp hp with hp | hp
    · exact N p hp
    · obtain ⟨b, _, hb⟩ := List.mem_filterMap.mp hp
      obtain ⟨rfl, h2, h3⟩ := hf b p hb
      exact ⟨hb0 _ _ h2, (fun z => by rw [z, hout L (.head _)] at h2; cases h2), h3⟩
  · obtain ⟨b, _, hb⟩ := List.mem_filterMap.mp hp
    obtain ⟨rfl, h2, h3⟩ := hf b p hb
    intro z
    rw [z, hout q.1 (.tail _ (List.mem_map.mpr ⟨q, hq, rfl⟩))] at h2; cases h2
  · rcases cov x o e with h1 | h1
    · exact F'.keep _ _ h1
    · exact (N' _ h1).1
/-- where the frame's own things lie -/
def HL (L : Addr) (cs : List (Addr × Obj)) : List Addr := L :: cs.map (·.1)
theorem Has.hide {h hm : Heap} {H : List Addr} {a dx C : Addr} {name : Str} {v : Value} (x : Has h a dx C name v) (hin : ∀ b o, h.get? b = some o → b ∉ H → hm.get? b = some o) (hard : ∀ x ∈ H, ∃ o, h.get? x = some o ∧ ¬ Soft o) (hdx : dx ∉ H) : Has hm a dx C name v := by
  obtain ⟨e, n, a1, a2, a3⟩ := x
  refine ⟨e, n, hin _ _ a1 fun hm => ?_, hin _ _ a2 hdx, a3⟩
  obtain ⟨o, e', hn⟩ := hard _ hm
  rw [a1] at e'; cases e'
  exact hn soft_inst
theorem TyH.hide {h hm : Heap} {H : List Addr} {ty dx : Addr} {kind : Str} {num : Int} {low high index : Value} {isC : Bool} (x : TyH h ty dx kind num low high index isC) (hin : ∀ b o, h.get? b = some o → b ∉ H → hm.get? b = some o) (hard : ∀ x ∈ H, ∃ o, h.get? x = some o ∧ ¬ Soft o) (hdx : dx ∉ H) : TyH hm ty dx kind num low high index isC :=
  ⟨let ⟨t, y⟩ := x.kind; ⟨t, y.hide hin hard hdx⟩, let ⟨t, y⟩ := x.number; ⟨t, y.hide hin hard hdx⟩, x.low.hide hin hard hdx, x.high.hide hin hard hdx, x.index.hide hin hard hdx, x.isC.hide hin hard hdx, x.tagged.hide hin hard hdx⟩
theorem soft_hide {h hm : Heap} {H : List Addr} {b : Addr} {o : Obj} (hin : ∀ b o, h.get? b = some o → b ∉ H → hm.get? b = some o) (hard : ∀ x ∈ H, ∃ o, h.get? x = some o ∧ ¬ Soft o) (e : h.get? b = some o) (sf : Soft o) : hm.get? b = some o := hin b o e fun hm => by
  obtain ⟨o', e', hn⟩ := hard _ hm
  rw [e] at e'; cases e'
  exact hn sf
theorem not_soft_cell {o : Obj} {v : Option Value} (hd : o.data = .cell v) : ¬ Soft o := by
  rintro (q | ⟨_, xs, n, q⟩) <;> rw [hd] at q <;> cases q
/-- the four cells of the law -/
abbrev four (L : Addr) (o1 o2 o3 o4 : Obj) : List (Addr × Obj) := [(L + 1, o1), (L + 2, o2), (L + 3, o3), (L + 4, o4)]
theorem four_hard {base h : Heap} {L : Addr} {m : Str → Option Value} {o1 o2 o3 o4 : Obj} {gl : List (Addr × Obj)} {v1 v2 v3 v4 : Option Value} (F : Fr base L h m) (N : News base L h (four L o1 o2 o3 o4 ++ gl)) (d1 : o1.data = .cell v1) (d2 : o2.data = .cell v2) (d3 : o3.data = .cell v3) (d4 : o4.data = .cell v4) :
    ∀ x ∈ L :: (four L o1 o2 o3 o4).map (·.1), ∃ o, h.get? x = some o ∧ ¬ Soft o := fun x hx => by
  rcases List.mem_cons.mp hx with rfl | hx
  · obtain ⟨o, es, ep, ho, hd, r⟩ := F.ns
    exact ⟨o, ho, not_soft_ns F.ns ho⟩
  · obtain ⟨p, hp, rfl⟩ := List.mem_map.mp hx
    have e := (N p (List.mem_append_left _ hp)).1
    refine ⟨_, e, ?_⟩
    simp only [four, List.mem_cons, List.not_mem_nil, or_false] at hp
    rcases hp with rfl | rfl | rfl | rfl
    · exact not_soft_cell d1
    · exact not_soft_cell d2
    · exact not_soft_cell d3
    · exact not_soft_cell d4
theorem fresh_out {h : Heap} {H : List Addr} {dx : Addr} (hard : ∀ x ∈ H, ∃ o, h.get? x = some o ∧ ¬ Soft o) (hdx : h.get? dx = none) : dx ∉ H := fun hm => by
  obtain ⟨o, e, _⟩ := hard _ hm
  rw [hdx] at e; cases e
abbrev H5 (L : Addr) : List Addr := [L, L + 1, L + 2, L + 3, L + 4]
/-- the law's frame, its own things cs, and all else that stands: hm -/
structure St (base hm : Heap) (L : Addr) (h : Heap) (m : Str → Option Value) (cs gl : List (Addr × Obj)) : Prop where
  F : Fr base L h m
  N : News base L h (cs ++ gl)
  dis : ∀ p ∈ gl, ∀ q ∈ cs, p.1 ≠ q.1
  bk : ∀ h' m', Fr base L h' m' → News base L h' gl → hm.StaysIn h'
  bs : base.StaysIn hm
  out : ∀ x ∈ L :: cs.map (·.1), hm.get? x = none
  cov : ∀ b o, hm.get? b = some o → base.get? b = some o ∨ (b, o) ∈ gl
theorem St.hm {base hm h : Heap} {L : Addr} {m : Str → Option Value} {cs gl : List (Addr × Obj)} (x : St base hm L h m cs gl) : hm.StaysIn h := x.bk _ _ x.F (news_sub x.N fun _ hp => List.mem_append_right _ hp)
theorem St.call {base hm h h' : Heap} {L : Addr} {m : Str → Option Value} {cs gl : List (Addr × Obj)} (x : St base hm L h m cs gl) (k : h.StaysIn h') : St base hm L h' m cs gl := ⟨Fr.keeps x.F k, News.grown x.N k, x.dis, x.bk, x.bs, x.out, x.cov⟩
theorem St.walk {base hm h h' : Heap} {L : Addr} {m m' : Str → Option Value} {cs cs' gl : List (Addr × Obj)} (x : St base hm L h m cs gl) (F : Fr base L h' m') (N : News base L h' (cs' ++ gl)) (e : cs'.map (·.1) = cs.map (·.1)) : St base hm L h' m' cs' gl := by
  refine ⟨F, N, fun p hp q hq => ?_, x.bk, x.bs, fun y hy => x.out y (e ▸ hy), x.cov⟩
  have : q.1 ∈ cs.map (·.1) := e ▸ List.mem_map.mpr ⟨q, hq, rfl⟩
  obtain ⟨q', hq', e'⟩ := List.mem_map.mp this
  rw [← e']; exact x.dis p hp q' hq'
theorem St.new {base h : Heap} {L : Addr} {m : Str → Option Value} {cs : List (Addr × Obj)} (F : Fr base L h m) (N : News base L h cs) : ∃ hm gl, St base hm L h m cs gl ∧ (∀ b o, h.get? b = some o → b ∉ L :: cs.map (·.1) → hm.get? b = some o) := by
  obtain ⟨hm, gl, a, _, c, d, e, f, g, k⟩ := ghost F N
  exact ⟨hm, gl, ⟨F, e, f, g, a, d, k⟩, c⟩
theorem St.again {base hm h h' : Heap} {L : Addr} {m : Str → Option Value} {cs gl : List (Addr × Obj)} (x : St base hm L h m cs gl) (k : h.StaysIn h') : ∃ hm' gl', St base hm' L h' m cs gl' ∧ hm.StaysIn hm' ∧ (∀ b o, h'.get? b = some o → b ∉ L :: cs.map (·.1) → hm'.get? b = some o) := by
  obtain ⟨hm', gl', y, c⟩ := St.new (Fr.keeps x.F k) (news_sub (News.grown x.N k) fun p hp => List.mem_append_left gl hp)
  exact ⟨hm', gl', y, fun b o e => c b o (k _ _ (x.hm _ _ e)) (fun hx => by rw [x.out b hx] at e; cases e), c⟩
theorem four_apart {L : Addr} {o1 o2 o3 o4 : Obj} {gl : List (Addr × Obj)} (dis : ∀ p ∈ gl, ∀ q ∈ four L o1 o2 o3 o4, p.1 ≠ q.1) :
    (∀ p ∈ (L + 2, o2) :: (L + 3, o3) :: (L + 4, o4) :: gl, p.1 ≠ L + 1) ∧ (∀ p ∈ (L + 3, o3) :: (L + 4, o4) :: gl, p.1 ≠ L + 2) ∧ (∀ p ∈ (L + 4, o4) :: gl, p.1 ≠ L + 3) ∧ ∀ p ∈ gl, p.1 ≠ L + 4 := by
  have a : ∀ p ∈ gl, p.1 ≠ L + 1 ∧ p.1 ≠ L + 2 ∧ p.1 ≠ L + 3 ∧ p.1 ≠ L + 4 := fun p hp => ⟨dis p hp _ (.head _), dis p hp _ (.tail _ (.head _)), dis p hp _ (.tail _ (.tail _ (.head _))), dis p hp _ (.tail _ (.tail _ (.tail _ (.head _))))⟩
  refine ⟨fun p hp => ?_, fun p hp => ?_, fun p hp => ?_, fun p hp => (a p hp).2.2.2⟩
  · simp only [List.mem_cons] at hp
    rcases hp with rfl | rfl | rfl | hp
    · exact neN (by dsimp only; omega)
    · exact neN (by dsimp only; omega)
    · exact neN (by dsimp only; omega)
    · exact (a p hp).1
  · simp only [List.mem_cons] at hp
    rcases hp with rfl | rfl | hp
    · exact neN (by dsimp only; omega)
    · exact neN (by dsimp only; omega)
    · exact (a p hp).2.1
  · simp only [List.mem_cons] at hp
    rcases hp with rfl | hp
    · exact neN (by dsimp only; omega)
    · exact (a p hp).2.2.1
/-- the types -/
structure Ty1 (hm : Heap) (L whole wdx deep ddx part pdx : Addr) : Prop where
  whole : ∃ iv t1 t2, TyH hm whole wdx (Str.ofString "int") 5 (.int (-32768) t1) (.int 32767 t2) iv true
  deep : ∃ lo hi iv, TyH hm deep ddx (Str.ofString "record") 91 lo hi iv true
  part : ∃ lo hi iv, TyH hm part pdx (Str.ofString "record") 93 lo hi iv true
theorem Ty1.stays {hm hm' : Heap} {L whole wdx deep ddx part pdx : Addr} (x : Ty1 hm L whole wdx deep ddx part pdx) (k : hm.StaysIn hm') : Ty1 hm' L whole wdx deep ddx part pdx :=
  ⟨let ⟨a, b, c, y⟩ := x.whole; ⟨a, b, c, y.stays k⟩, let ⟨a, b, c, y⟩ := x.deep; ⟨a, b, c, y.stays k⟩, let ⟨a, b, c, y⟩ := x.part; ⟨a, b, c, y.stays k⟩⟩
theorem Ty1.hide {h hm : Heap} {H : List Addr} {L whole wdx deep ddx part pdx : Addr} (x : Ty1 h L whole wdx deep ddx part pdx) (hin : ∀ b o, h.get? b = some o → b ∉ H → hm.get? b = some o) (hard : ∀ x ∈ H, ∃ o, h.get? x = some o ∧ ¬ Soft o) (h1 : wdx ∉ H) (h2 : ddx ∉ H) (h3 : pdx ∉ H) : Ty1 hm L whole wdx deep ddx part pdx :=
  ⟨let ⟨a, b, c, y⟩ := x.whole; ⟨a, b, c, y.hide hin hard h1⟩, let ⟨a, b, c, y⟩ := x.deep; ⟨a, b, c, y.hide hin hard h2⟩, let ⟨a, b, c, y⟩ := x.part; ⟨a, b, c, y.hide hin hard h3⟩⟩
/-- one thing more of the frame's own -/
theorem St.add {base hm h h' : Heap} {L tape : Addr} {m m' : Str → Option Value} {cs gl : List (Addr × Obj)} {o : Obj} (x : St base hm L h m cs gl) (F : Fr base L h' m') (N : News base L h' ((tape, o) :: cs ++ gl)) (hn : ∀ p ∈ gl, p.1 ≠ tape) : ∃ hm' gl', St base hm' L h' m' ((tape, o) :: cs) gl' ∧ hm.StaysIn hm' ∧ (∀ b o, h'.get? b = some o → b ∉ L :: tape :: cs.map (·.1) → hm'.get? b = some o) := by
  obtain ⟨hm', gl', y, c⟩ := St.new F (cs := (tape, o) :: cs) (news_sub N fun p hp => List.mem_append_left gl hp)
  refine ⟨hm', gl', y, fun b ob e => c b ob ?_ fun hx => ?_, c⟩
  · exact x.bk _ _ F (news_sub N fun p hp => List.mem_append_right _ hp) b ob e
  · rcases List.mem_cons.mp hx with rfl | hx
    · rw [x.out _ (.head _)] at e; cases e
    · rcases List.mem_cons.mp hx with rfl | hx
      · rcases x.cov _ _ e with h1 | h1
        · have := (N _ (.head _)).2.2
          dsimp only at this
          rw [this] at h1; cases h1
        · exact hn _ h1 rfl
      · rw [x.out _ (.tail _ hx)] at e; cases e
theorem news_named2 {h₀ h : Heap} {L a b : Addr} {o o' : Obj} {r : List (Addr × Obj)} (N : News h₀ L h ((a, o) :: (b, o') :: r)) : ∃ x y, x = a ∧ y = b ∧ News h₀ L h ((x, o) :: (y, o') :: r) := ⟨a, b, rfl, rfl, N⟩
theorem allInt_of : ∀ {vs : List Value} {ns : List Int}, IntsAre vs ns → AllInt vs.toArray := by
  intro vs ns h i v e
  rw [List.getElem?_toArray] at e
  induction h generalizing i with
  | nil => simp at e
  | cons n t r ih =>
    cases i with
    | zero => simp at e; exact ⟨_, _, e.symm⟩
    | succ i => exact ih i (by simpa using e)
theorem intsAre_len {vs : List Value} {ns : List Int} (h : IntsAre vs ns) : vs.length = ns.length := by
  induction h with
  | nil => rfl
  | cons n t r ih => rw [List.length_cons, List.length_cons, ih]
theorem St.slot {base hm h h' : Heap} {L tape : Addr} {m : Str → Option Value} {cs gl : List (Addr × Obj)} {o o' : Obj} (x : St base hm L h m ((tape, o) :: cs) gl) (hk : ∀ b o, b ≠ tape → h.get? b = some o → h'.get? b = some o) (e : h'.get? tape = some o') (hcs : ∀ p ∈ cs, p.1 ≠ tape) : St base hm L h' m ((tape, o') :: cs) gl := by
  have z := x.N (tape, o) (.head _)
  refine ⟨fr_at x.F (fun b o hb q => hk b o hb q) (Ne.symm z.2.1) z.2.2, fun p hp => ?_, fun p hp q hq => ?_, x.bk, x.bs, x.out, x.cov⟩
  · rcases List.mem_cons.mp hp with rfl | hp
    · exact ⟨e, z.2⟩
    · have y := x.N p (.tail _ hp)
      refine ⟨hk _ _ ?_ y.1, y.2⟩
      rcases List.mem_append.mp hp with hp | hp
      · exact hcs p hp
      · exact x.dis p hp (tape, o) (.head _)
  · rcases List.mem_cons.mp hq with rfl | hq
    · exact x.dis p hp (tape, o) (.head _)
    · exact x.dis p hp q (.tail _ hq)
theorem four_tape {L tape : Addr} {o1 o2 o3 o4 : Obj} (h : @LT.lt Nat _ (L + 4) tape) : ∀ p ∈ four L o1 o2 o3 o4, p.1 ≠ tape := fun p hp => by
  simp only [four, List.mem_cons, List.not_mem_nil, or_false] at hp
  rcases hp with rfl | rfl | rfl | rfl <;> exact neN (by dsimp only; omega)
theorem St.dis4 {base hm h : Heap} {L tape : Addr} {m : Str → Option Value} {cs gl : List (Addr × Obj)} {o : Obj} (x : St base hm L h m ((tape, o) :: cs) gl) : ∀ p ∈ gl, ∀ q ∈ cs, p.1 ≠ q.1 := fun p hp q hq => x.dis p hp q (.tail _ hq)
/-- the tape -/
structure TapeF (w : World) (hm : Heap) (L tape row : Addr) (o : Obj) (r : Int) (rs : Array Value) : Prop where
  dict : ∃ u, o.IsDictOf (PySem.strKind PySem.Challenge.rw_xw0007_01.prog w) (tapeK row r u)
  row : hm.PlainList row rs
  size : rs.size ≤ 100
  allI : AllInt rs
  r0 : 0 ≤ r
  above : @LT.lt Nat _ (L + 4) tape
def Hard (h : Heap) (H : List Addr) : Prop := ∀ x ∈ H, ∃ o, h.get? x = some o ∧ o.data ≠ .plain ∧ ∀ xs n, o.data ≠ .seq xs n
theorem Hard.soft {h : Heap} {H : List Addr} (k : Hard h H) : ∀ x ∈ H, ∃ o, h.get? x = some o ∧ ¬ Soft o := fun x hx => by
  obtain ⟨o, e, h1, h2⟩ := k x hx
  refine ⟨o, e, ?_⟩
  rintro (q | ⟨_, xs, n, q⟩)
  · exact h1 q
  · exact h2 _ _ q
theorem Hard.seq {h : Heap} {H : List Addr} (k : Hard h H) {l : Addr} {o : Obj} {xs : Array Value} {n : Nat} (e : h.get? l = some o) (d : o.data = .seq xs n) : l ∉ H := fun hx => by
  obtain ⟨o', e', _, h2⟩ := k l hx
  rw [e] at e'; cases e'
  exact h2 _ _ d
theorem Hard.stays {h h' : Heap} {H : List Addr} (k : Hard h H) (st : h.StaysIn h') : Hard h' H := fun x hx => let ⟨o, e, r⟩ := k x hx; ⟨o, st _ _ e, r⟩
theorem cell_hard {o : Obj} {v : Option Value} (d : o.data = .cell v) : o.data ≠ .plain ∧ ∀ xs n, o.data ≠ .seq xs n := ⟨(fun q => by rw [d] at q; cases q), (fun xs n q => by rw [d] at q; cases q)⟩
theorem dict_hard {o : Obj} {es : Array DictEntry} {n : Nat} (d : o.data = .dict es n) : o.data ≠ .plain ∧ ∀ xs n, o.data ≠ .seq xs n := ⟨(fun q => by rw [d] at q; cases q), (fun xs n q => by rw [d] at q; cases q)⟩
theorem four_hardS {base hm h : Heap} {L : Addr} {m : Str → Option Value} {o1 o2 o3 o4 : Obj} {gl : List (Addr × Obj)} {v1 v2 v3 v4 : Option Value} (S : St base hm L h m (four L o1 o2 o3 o4) gl) (d1 : o1.data = .cell v1) (d2 : o2.data = .cell v2) (d3 : o3.data = .cell v3) (d4 : o4.data = .cell v4) : Hard h (L :: (four L o1 o2 o3 o4).map (·.1)) := fun x hx => by
  rcases List.mem_cons.mp hx with rfl | hx
  · obtain ⟨o, es, ep, ho, hd, r⟩ := S.F.ns
    exact ⟨o, ho, dict_hard hd⟩
  · obtain ⟨p, hp, rfl⟩ := List.mem_map.mp hx
    have e := (S.N p (List.mem_append_left _ hp)).1
    refine ⟨_, e, ?_⟩
    simp only [four, List.mem_cons, List.not_mem_nil, or_false] at hp
    rcases hp with rfl | rfl | rfl | rfl
    · exact cell_hard d1
    · exact cell_hard d2
    · exact cell_hard d3
    · exact cell_hard d4
theorem five_hard {prog : Program} {w : World} {base hm h : Heap} {L tape : Addr} {m : Str → Option Value} {o o1 o2 o3 o4 : Obj} {gl : List (Addr × Obj)} {v1 v2 v3 v4 : Option Value} {kvs : List (Str × Value)} (S : St base hm L h m ((tape, o) :: four L o1 o2 o3 o4) gl) (hd : o.IsDictOf (PySem.strKind prog w) kvs) (d1 : o1.data = .cell v1) (d2 : o2.data = .cell v2) (d3 : o3.data = .cell v3) (d4 : o4.data = .cell v4) : Hard h (L :: ((tape, o) :: four L o1 o2 o3 o4).map (·.1)) := fun x hx => by
  rcases List.mem_cons.mp hx with rfl | hx
  · obtain ⟨o, es, ep, ho, hd, r⟩ := S.F.ns
    exact ⟨o, ho, dict_hard hd⟩
  · obtain ⟨p, hp, rfl⟩ := List.mem_map.mp hx
    have e := (S.N p (List.mem_append_left _ hp)).1
    refine ⟨_, e, ?_⟩
    simp only [four, List.mem_cons, List.not_mem_nil, or_false] at hp
    rcases hp with rfl | rfl | rfl | rfl | rfl
    · obtain ⟨_, _, _, hdd, _⟩ := hd
      exact dict_hard hdd
    · exact cell_hard d1
    · exact cell_hard d2
    · exact cell_hard d3
    · exact cell_hard d4
theorem PairsAt.hide {h hm : Heap} {H : List Addr} {l : Addr} {bs : List (Int × Int)} (x : PairsAt h l bs) (hin : ∀ b o, h.get? b = some o → b ∉ H → hm.get? b = some o) (k : Hard h H) : PairsAt hm l bs := by
  obtain ⟨vs, ⟨n, e⟩, r⟩ := x
  exact ⟨vs, ⟨n, hin _ _ e (k.seq e rfl)⟩, r.keep fun b o e sf => soft_hide hin k.soft e sf⟩
theorem TapeF.next {w : World} {hm hm' : Heap} {L tape row : Addr} {o o' : Obj} {r r' : Int} {rs : Array Value} {u : Tok} (x : TapeF w hm L tape row o r rs) (st : hm.StaysIn hm') (hd : o'.IsDictOf (PySem.strKind PySem.Challenge.rw_xw0007_01.prog w) (tapeK row r' u)) (h0 : 0 ≤ r') : TapeF w hm' L tape row o' r' rs :=
  ⟨⟨u, hd⟩, x.row.at fun o e => st _ _ e, x.size, x.allI, h0, x.above⟩
theorem St.past {base hm h h' : Heap} {L K : Addr} {m : Str → Option Value} {cs gl : List (Addr × Obj)} (x : St base hm L h m cs gl) (k : ∀ b o, b ≠ K → h.get? b = some o → h'.get? b = some o) (hL : L ≠ K) (h0 : base.get? K = none) (hn : ∀ p ∈ cs ++ gl, p.1 ≠ K) : St base hm L h' m cs gl :=
  ⟨fr_at x.F k hL h0, news_at x.N k hn, x.dis, x.bk, x.bs, x.out, x.cov⟩
theorem St.up {base hm h h' : Heap} {L : Addr} {m : Str → Option Value} {cs gl : List (Addr × Obj)} (x : St base hm L h m cs gl) (u : Up [L] h h') : St base hm L h' m cs gl := by
  have hL0 : base.get? L = none := Heap.get?_none_of_le x.F.above
  exact ⟨⟨u.ns x.F.ns, fun b o e => (u b o (x.F.keep b o e)).1 (fun hm => by rw [List.mem_singleton.mp hm, hL0] at e; cases e), x.F.above⟩, fun p hp => ⟨(u _ _ (x.N p hp).1).1 fun hm => (x.N p hp).2.1 (List.mem_singleton.mp hm), (x.N p hp).2⟩, x.dis, x.bk, x.bs, x.out, x.cov⟩
theorem St.keepX {base hm h h' : Heap} {L : Addr} {m : Str → Option Value} {cs gl : List (Addr × Obj)} {S : List Addr} (x : St base hm L h m cs gl) (k : ∀ b o, h.get? b = some o → b ∉ S → h'.get? b = some o) (hb : ∀ y ∈ S, base.get? y = none) (hL : L ∉ S) (hn : ∀ p ∈ cs ++ gl, p.1 ∉ S) : St base hm L h' m cs gl :=
  ⟨fr_keepX x.F k hb hL, news_keepX x.N k hn, x.dis, x.bk, x.bs, x.out, x.cov⟩
theorem Due.unique {bs rs : List (Int × Int)} {asked : Option (List (Int × Int))} {r r' : List (Int × Int)} (h : Due bs rs asked r) (h' : Due bs rs asked r') : r = r' := by
  cases asked with
  | none => exact h.1.trans h'.1.symm
  | some as => exact h.1.trans h'.1.symm
local macro_rules | `(tactic| k_all) => `(tactic| with_reducible assumption)
section
theorem lines_G1_1 : True := by
  k_with "eval Name" => (k_here; (with_reducible show wpAny _ _ (eval (PySem.Expr.Name (PySem.Str.ofString "deep") _) _) _ _ _); k_dflt (refine' nameX_C (by k_asm) (by rfl) (by k_mem) (by with_reducible assumption) ?_; k_whole))
  trivial
variable {w : World} {dp un : Nat} {fr : Option (List Env)} {gd : Option (List Code)} {E : Value → Shared → Prop} {s : Shared} {Q : Flow → Shared → Prop} {mean : ExcName → Option Value} {mg mb : Str → Option Value} {base hm : Heap} {outer : List Env} {L fa : Addr} {cd : Value} {m : Str → Option Value} {o1 o2 o3 o4 : Obj}
theorem law_1 {sc : Addr} (X : (hd.heap_39 w.params).In base) (T : Top hd.view_39 (looseW hd.view_39 []) mean mg mb base) (hdep : dp + 60 < recursionLimit) (hu : un + 400 < cLine) (F : Fr base L s.heap m) (N : News base L s.heap (four L o1 o2 o3 o4)) (d1 : o1.data = .cell none) (d2 : o2.data = .cell none) (d3 : o3.data = .cell none) (d4 : o4.data = .cell none) (m1 : m (Str.ofString "script") = some (.ref sc))
    (next : ∀ hm h' tk m' o1 o2 gl whole wdx deep ddx part pdx, St base hm L h' m' (four L o1 o2 o3 o4) gl → o1.data = .cell (some (.ref deep)) → o2.data = .cell (some (.ref part)) → m' (Str.ofString "script") = some (.ref sc) → m' (Str.ofString "whole") = some (.ref whole) → Ty1 hm L whole wdx deep ddx part pdx →
      wpAny (model PySem.Challenge.rw_xw0007_01.prog w) ((Ar dp un fr gd).deeper (lawEnv L fa cd)) (execs (lawRest 4) (lawEnv L fa cd)) Q E { s with heap := h', toks := tk }) :
    wpAny (model PySem.Challenge.rw_xw0007_01.prog w) ((Ar dp un fr gd).deeper (lawEnv L fa cd)) (execs (lawRest 0) (lawEnv L fa cd)) Q E s := by
  show wpAny _ _ (execs (_ :: _ :: _ :: _ :: lawRest 4) _) _ _ _
  generalize lawRest 4 = R at next ⊢
  have hard := four_hard (gl := []) F (by simpa using N) d1 d2 d3 d4
  k_steps
  apply unhold
  refine law_number_ok (X.keeps F.keep) (T.keeps F.keep) (by walk_at "my room") fun h2 tk2 whole wdx iv t1 t2 hk2 hwdx W => ?_
  obtain ⟨hm2, gl2, S2, in2⟩ := St.new (Fr.keeps F hk2) (News.grown N hk2)
  have W2 := W.hide in2 (fun x hx => let ⟨o, e, n⟩ := hard x hx; ⟨o, hk2 _ _ e, n⟩) (fresh_out hard hwdx)
  have F2 := S2.F
  have N2 : News base L h2 ((L + 1, o1) :: (L + 2, o2) :: (L + 3, o3) :: (L + 4, o4) :: gl2) := S2.N
  clear F N
  k_steps
  apply unhold
  with_reducible rename Fr _ _ _ _ => F3
  with_reducible rename News _ _ _ _ => N3
  refine law_two_ok (X.keeps F3.keep) (T.keeps F3.keep) (by walk_at "my room") fun h4 tk4 two hk4 => ?_
  have F4 := Fr.keeps F3 hk4
  have N4 := News.grown N3 hk4
  clear F3 N3
  k_steps
  apply unhold
  with_reducible rename Fr _ _ _ _ => F5
  with_reducible rename News _ _ _ _ => N5
  have S5 := S2.walk F5 N5 rfl
  have hard5 := four_hard (gl := gl2) F5 N5 d1 d2 d3 d4
  refine law_deep_ok (X.keeps F5.keep) (T.keeps F5.keep) (by walk_at "my room") (by walk_at "my room") fun h6 tk6 deep ddx iv6 lo6 hi6 hk6 hddx D => ?_
  obtain ⟨hm6, gl6, S6, st6, in6⟩ := S5.again hk6
  have D6 := D.hide in6 (fun x hx => let ⟨o, e, n⟩ := hard5 x hx; ⟨o, hk6 _ _ e, n⟩) (fresh_out hard5 hddx)
  have W6 := W2.stays st6
  obtain ⟨ap1, ap2, ap3, ap4⟩ := four_apart S6.dis
  have F6 := S6.F
  have N6 : News base L h6 ((L + 1, o1) :: (L + 2, o2) :: (L + 3, o3) :: (L + 4, o4) :: gl6) := S6.N
  clear F5 N5
  k_steps
  apply unhold
  with_reducible rename Fr _ _ _ _ => F7
  with_reducible rename News _ _ _ _ => N7
  with_reducible rename _ = Data.cell (some _) => e1
  have S7 := S6.walk (cs' := four L _ o2 o3 o4) F7 N7 rfl
  refine law_to_ok (X.keeps F7.keep) (T.keeps F7.keep) (by walk_at "my room") fun h8 tk8 to hk8 => ?_
  have F8 := Fr.keeps F7 hk8
  have N8 := News.grown N7 hk8
  have S8 := S7.call hk8
  clear F7 N7
  k_steps
  apply unhold
  with_reducible rename Fr _ _ _ _ => F9
  with_reducible rename News _ _ _ _ => N9
  have S9 := S8.walk (cs' := four L _ o2 o3 o4) F9 N9 rfl
  have hard9 := four_hard (gl := gl6) F9 N9 e1 d2 d3 d4
  refine law_part_ok (X.keeps F9.keep) (T.keeps F9.keep) (by walk_at "my room") (by walk_at "my room") fun h10 tk10 part pdx iv10 lo10 hi10 hk10 hpdx P => ?_
  obtain ⟨hm10, gl10, S10, st10, in10⟩ := S9.again hk10
  have P10 := P.hide in10 (fun x hx => let ⟨o, e, n⟩ := hard9 x hx; ⟨o, hk10 _ _ e, n⟩) (fresh_out hard9 hpdx)
  have D10 := D6.stays st10
  have W10 := W6.stays st10
  clear ap1 ap2 ap3 ap4
  obtain ⟨ap1, ap2, ap3, ap4⟩ := four_apart S10.dis
  have F10 := S10.F
  have N10 : News base L h10 ((L + 1, _) :: (L + 2, o2) :: (L + 3, o3) :: (L + 4, o4) :: gl10) := S10.N
  clear F9 N9
  k_steps
  with_reducible rename Fr _ _ _ _ => F11
  with_reducible rename News _ _ _ _ => N11
  with_reducible rename _ = Data.cell (some _) => e2
  have S11 := S10.walk (cs' := four L _ _ o3 o4) F11 N11 rfl
  exact next _ _ _ _ _ _ _ _ _ _ _ _ _ S11 e1 e2 (by simp +decide only [↓reduceIte]; exact m1) (by simp +decide only [↓reduceIte]) ⟨⟨_, _, _, W10⟩, ⟨_, _, _, D10⟩, ⟨_, _, _, P10⟩⟩
end
theorem lines_G1_2 : True := by
  k_with_none
  k_with "eval ListComp" => (refine hold ?_)
  k_with "exec For" => (refine hold ?_)
  k_with "exec For Name Attribute cons nil" => (refine hold ?_)
  k_with "exec For Name Name cons nil" => (refine hold ?_)
  k_with "exec For Name Call cons nil" => (refine hold ?_)
  k_with "exec For Tuple Name cons nil" => (refine hold ?_)
  k_with "getAttr ref" => (k_here; k_dflt (refine' get_has (by k_asm) (by k_asm) (by with_reducible assumption) (by k_is) (by k_is) (by k_is) (by k_is) (by exact rfl) ?_; k_whole))
  k_with "my comp" => (
  (case hh => rfl); (case hclos => exact closureFor_none (by decide)); (case hcell => decide); (case hkind => rfl); (case hnames => decide); (case hx => rfl); (case hs => intro x; rfl))
  k_with "my room" => first | omega | (dsimp only [Around.deeper, Around.in1]; omega)
  k_with "call ref" => (refine hold ?_)
  k_with "subscriptTail" => (k_here; (with_reducible show wpAny _ _ (subscriptTail _ _ (Value.ref _) (Value.str _ _)) _ _ _); k_dflt (refine' sub_dict (by k_asm) (by with_reducible assumption) (by with_reducible assumption) ?_; k_whole))
  k_with "subscriptTail" => (k_here; (with_reducible show wpAny _ _ (subscriptTail _ _ (Value.ref _) (Value.str _ _)) _ _ _); k_dflt (refine' sub_dictN (by k_asm) (by first | k_mem | (simp; done)) (by with_reducible assumption) (by with_reducible assumption) ?_; k_whole))
  k_with "exec Raise some none" => (k_here; (with_reducible show wpAny _ _ (exec (Stmt.Raise (some _) none _) _) _ _ _); refine raise_obj rfl ?_)
  k_with "my pairs" => (
  (case hh => rfl); (case hclos => exact closureFor_none (by decide)); (case hcell => decide); (case hkind => rfl); (case hnames => decide); (case hx => rfl); (case hx2 => rfl); (case hxx => decide); (case hs => intro x; rfl))
  k_with "subscriptTail" => (k_here; (with_reducible show wpAny _ _ (subscriptTail _ _ (Value.ref _) (Value.int _ _)) _ _ _); k_dflt (refine' sub_list (by k_asm) (by with_reducible assumption) (by with_reducible assumption) (by omega) ?_; k_whole))
  k_with "call type:range" => (refine hold ?_)
  k_with "my look" => first | with_reducible assumption | (simp +decide only [↓reduceIte]; with_reducible assumption)
  k_with "eval Name" => (k_here; (fail_if_success (with_reducible show wpAny _ _ (eval _ (compEnvC _ _ _ _)) _ _ _)); k_dflt (refine' ld (by k_asm) (by walk_at "my look") ?_; k_whole))
  k_with "exec" => (k_here; (with_reducible show wpAny _ _ (exec (Stmt.While _ _ [] _) _) _ _ _); refine while_out ?_)
  k_with "isTrue UnaryOp" => (k_here; (refine isTrue_not ?_); k_dflt (refine isTrue_plain ?_; refine Call_ ?_))
  k_with "exec Try" => (k_here; refine wpAny_Try_except ?_)
  trivial
section
theorem lines_G2_1 : True := by
  k_with "eval Name" => (k_here; (with_reducible show wpAny _ _ (eval (PySem.Expr.Name (PySem.Str.ofString "is_record") _) _) _ _ _); k_dflt (refine' nameX_C (by k_asm) (by rfl) (by k_mem) (by with_reducible assumption) ?_; k_whole))
  trivial
theorem lines_G2_2 : True := by
  k_with "eval Name" => (k_here; (with_reducible show wpAny _ _ (eval (PySem.Expr.Name (PySem.Str.ofString "part") _) _) _ _ _); k_dflt (refine' nameX_C (by k_asm) (by rfl) (by k_mem) (by with_reducible assumption) ?_; k_whole))
  trivial
theorem lines_G2_3 : True := by
  k_with "exec Assign" => (k_here; (with_reducible show wpAny _ _ (exec (Stmt.Assign [_] (PySem.Expr.IfExp _ _ _ _) _) _) _ _ _); refine hold ?_)
  trivial
variable {w : World} {dp un : Nat} {fr : Option (List Env)} {gd : Option (List Code)} {E : Value → Shared → Prop} {s : Shared} {Q : Flow → Shared → Prop} {mean : ExcName → Option Value} {mg mb : Str → Option Value} {base hm : Heap} {outer : List Env} {L fa : Addr} {cd : Value} {m : Str → Option Value} {o1 o2 o3 o4 : Obj} {gl : List (Addr × Obj)}
theorem law_2 {sc whole wdx deep ddx part pdx : Addr} {vs : List Value} {ns : List Int} (X : (hd.heap_39 w.params).In base) (T : Top hd.view_39 (looseW hd.view_39 []) mean mg mb base) (hdep : dp + 60 < recursionLimit) (hu : un + 400 < cLine) (S : St base hm L s.heap m (four L o1 o2 o3 o4) gl) (e1 : o1.data = .cell (some (.ref deep))) (e2 : o2.data = .cell (some (.ref part))) (d3 : o3.data = .cell none) (d4 : o4.data = .cell none)
    (m1 : m (Str.ofString "script") = some (.ref sc)) (m2 : m (Str.ofString "whole") = some (.ref whole)) (Y : Ty1 hm L whole wdx deep ddx part pdx) (hsc : base.IsList sc vs.toArray) (hI : IntsAre vs ns) (hlen : ns.length ≤ 63)
    (next : ∀ hm h' tk m' o o3 gl tape row rs b comp dims t, St base hm L h' m' ((tape, o) :: four L o1 o2 o3 o4) gl → TapeF w hm L tape row o 2 rs → o3.data = .cell (some (.bool b)) → 1 ≤ dims → dims ≤ 2 → m' (Str.ofString "tape") = some (.ref tape) → m' (Str.ofString "dims") = some (.int dims t) → m' (Str.ofString "whole") = some (.ref whole) → m' (Str.ofString "component") = some (.ref comp) → Ty1 hm L whole wdx deep ddx part pdx →
      wpAny (model PySem.Challenge.rw_xw0007_01.prog w) ((Ar dp un fr gd).deeper (lawEnv L fa cd)) (execs (lawRest 8) (lawEnv L fa cd)) Q E { s with heap := h', toks := tk }) :
    wpAny (model PySem.Challenge.rw_xw0007_01.prog w) ((Ar dp un fr gd).deeper (lawEnv L fa cd)) (execs (lawRest 4) (lawEnv L fa cd)) Q E s := by
  show wpAny _ _ (execs (_ :: _ :: _ :: _ :: lawRest 8) _) _ _ _
  generalize lawRest 8 = R at next ⊢
  have F := S.F
  have N : News base L s.heap ((L + 1, o1) :: (L + 2, o2) :: (L + 3, o3) :: (L + 4, o4) :: gl) := S.N
  obtain ⟨ap1, ap2, ap3, ap4⟩ := four_apart S.dis
  k_steps
  all_goals (try k_data)
  apply unhold
  with_reducible rename Fr _ _ _ _ => F2
  with_reducible rename News _ _ _ _ => N2
  have hd2 := ‹Obj.IsDictOf _ _ _›
  have hI2 := ‹IntsAre _ (ns.take 20)›
  obtain ⟨row, tape, hr, ht, N2⟩ := news_named2 N2
  subst hr
  subst ht
  have er := (N2 _ (.head _)).1
  have et := (N2 _ (.tail _ (.head _))).1
  have hal : AllLt tape gl := (‹_ ∧ _ ∧ _ ∧ _ ∧ AllLt tape gl›).2.2.2.2
  obtain ⟨hm2, gl2, S2, st2, in2⟩ := S.add (tape := tape) F2 (news_sub N2 fun p hp => .tail _ hp) fun p hp => Nat.ne_of_lt (ktn_ltOf hal p hp)
  dsimp only at er et
  have hrow : hm2.PlainList row _ := ⟨_, in2 _ _ er fun hx => ?_⟩
  rotate_left
  · simp only [four, List.map_cons, List.map_nil, List.mem_cons, List.not_mem_nil, or_false] at hx
    obtain ⟨oL, _, _, hoL, hdL, _⟩ := F2.ns
    obtain ⟨_, _, _, hdt, _⟩ := hd2
    rcases hx with rfl | rfl | rfl | rfl | rfl | rfl
    · rw [er] at hoL; cases hoL; cases hdL
    · rw [er] at et; cases et; cases hdt
    · have := (N2 _ (.tail _ (.tail _ (.head _)))).1
      dsimp only at this; rw [er] at this; cases this; cases e1
    · have := (N2 _ (.tail _ (.tail _ (.tail _ (.head _))))).1
      dsimp only at this; rw [er] at this; cases this; cases e2
    · have := (N2 _ (.tail _ (.tail _ (.tail _ (.tail _ (.head _)))))).1
      dsimp only at this; rw [er] at this; cases this; cases d3
    · have := (N2 _ (.tail _ (.tail _ (.tail _ (.tail _ (.tail _ (.head _))))))).1
      dsimp only at this; rw [er] at this; cases this; cases d4
  have Y2 := Y.stays st2
  have hws : (List.toArray _).size ≤ 100 := Nat.le_trans (Nat.le_of_eq (by rw [List.size_toArray, intsAre_len hI2])) (by rw [List.length_take]; omega)
  refine slot_ok (hw := hm2) (X.keeps S2.bs) (T.keeps S2.bs) (by exact S2.hm) (by walk_at "my room") (S2.out _ (.tail _ (.head _))) et hd2 (hrow.at fun o e => S2.hm _ _ e) hws (allInt_of hI2) (by decide) (by decide) (by decide) (by decide) fun h3 tk3 o3' v3 t3 u3 hk3 et3 hd3 lo3 hi3 => ?_
  have htp : @LT.lt Nat _ (L + 4) tape := (‹_ ∧ _ ∧ _ ∧ _ ∧ AllLt tape gl›).2.2.2.1
  have S3 := S2.slot hk3 et3 (four_tape htp)
  clear ap1 ap2 ap3 ap4
  obtain ⟨ap1, ap2, ap3, ap4⟩ := four_apart S3.dis4
  have F3 := S3.F
  have N3 : News base L h3 ((tape, o3') :: (L + 1, o1) :: (L + 2, o2) :: (L + 3, o3) :: (L + 4, o4) :: gl2) := S3.N
  clear F2
  clear N2
  clear N2
  k_steps
  apply unhold
  with_reducible rename Fr _ _ _ _ => F4
  with_reducible rename News _ _ _ _ => N4
  have S4 := S3.walk (cs' := (tape, o3') :: four L o1 o2 o3 o4) F4 N4 rfl
  refine slot_ok (hw := hm2) (X.keeps S4.bs) (T.keeps S4.bs) (by exact S4.hm) (by walk_at "my room") (S4.out _ (.tail _ (.head _))) (N4 _ (.head _)).1 hd3 (hrow.at fun o e => S4.hm _ _ e) hws (allInt_of hI2) (by decide) (by decide) (by decide) (by decide) fun h5 tk5 o5' v5 t5 u5 hk5 et5 hd5 lo5 hi5 => ?_
  have S5 := S4.slot hk5 et5 (four_tape htp)
  have F5 := S5.F
  have N5 : News base L h5 ((tape, o5') :: (L + 1, o1) :: (L + 2, o2) :: (L + 3, o3) :: (L + 4, o4) :: gl2) := S5.N
  clear F4 N4
  k_steps
  apply unhold
  with_reducible rename Fr _ _ _ _ => F6
  with_reducible rename News _ _ _ _ => N6
  with_reducible rename _ = Data.cell (some (Value.bool _)) => e3
  with_reducible rename Obj => o3n
  generalize (v5 == 1) = isR at e3
  have S6 := S5.walk (cs' := (tape, o5') :: four L o1 o2 o3n o4) F6 N6 rfl
  refine flow_join (fun s' => ∃ h' tk comp m', s' = ⟨h', s.gens, s.drawn, tk, s.os⟩ ∧ St base hm2 L h' m' ((tape, o5') :: four L o1 o2 o3n o4) gl2 ∧ m' (Str.ofString "component") = some (.ref comp) ∧ m' (Str.ofString "tape") = some (.ref tape) ∧ (∃ t, m' (Str.ofString "dims") = some (.int (1 + v3) t)) ∧ m' (Str.ofString "whole") = some (.ref whole)) ?_ ?_
  · refine wpAny_Assign_Name ?_
    k_steps
    all_goals (try k_data)
    · with_reducible rename Fr _ _ _ _ => F7
      with_reducible rename News _ _ _ _ => N7
      exact ⟨rfl, _, _, part, _, rfl, S6.walk (cs' := (tape, o5') :: four L o1 o2 o3n o4) F7 N7 rfl, by simp +decide only [↓reduceIte], by simp +decide only [↓reduceIte], ⟨_, by simp +decide only [↓reduceIte]; rfl⟩, by simp +decide only [↓reduceIte]; exact m2⟩
    · with_reducible rename Fr _ _ _ _ => F7
      with_reducible rename News _ _ _ _ => N7
      exact ⟨rfl, _, _, whole, _, rfl, S6.walk (cs' := (tape, o5') :: four L o1 o2 o3n o4) F7 N7 rfl, by simp +decide only [↓reduceIte], by simp +decide only [↓reduceIte], ⟨_, by simp +decide only [↓reduceIte]; rfl⟩, by simp +decide only [↓reduceIte]; exact m2⟩
  rintro s' ⟨h8, tk8, comp, m8, rfl, S8, m81, m82, ⟨t8, m83⟩, m84⟩
  exact next _ _ _ _ _ _ _ _ _ _ _ _ _ _ S8 ⟨⟨_, hd5⟩, hrow, hws, allInt_of hI2, by decide, htp⟩ e3 (by omega) (by omega) m82 m83 m84 m81 Y2
end
theorem lines_G2_4 : True := by
  k_with_none
  k_with "eval ListComp" => (refine hold ?_)
  k_with "exec For" => (refine hold ?_)
  k_with "exec For Name Attribute cons nil" => (refine hold ?_)
  k_with "exec For Name Name cons nil" => (refine hold ?_)
  k_with "exec For Name Call cons nil" => (refine hold ?_)
  k_with "exec For Tuple Name cons nil" => (refine hold ?_)
  k_with "getAttr ref" => (k_here; k_dflt (refine' get_has (by k_asm) (by k_asm) (by with_reducible assumption) (by k_is) (by k_is) (by k_is) (by k_is) (by exact rfl) ?_; k_whole))
  k_with "my comp" => (
  (case hh => rfl); (case hclos => exact closureFor_none (by decide)); (case hcell => decide); (case hkind => rfl); (case hnames => decide); (case hx => rfl); (case hs => intro x; rfl))
  k_with "my room" => first | omega | (dsimp only [Around.deeper, Around.in1]; omega)
  k_with "call ref" => (refine hold ?_)
  k_with "subscriptTail" => (k_here; (with_reducible show wpAny _ _ (subscriptTail _ _ (Value.ref _) (Value.str _ _)) _ _ _); k_dflt (refine' sub_dict (by k_asm) (by with_reducible assumption) (by with_reducible assumption) ?_; k_whole))
  k_with "subscriptTail" => (k_here; (with_reducible show wpAny _ _ (subscriptTail _ _ (Value.ref _) (Value.str _ _)) _ _ _); k_dflt (refine' sub_dictN (by k_asm) (by first | k_mem | (simp; done)) (by with_reducible assumption) (by with_reducible assumption) ?_; k_whole))
  k_with "exec Raise some none" => (k_here; (with_reducible show wpAny _ _ (exec (Stmt.Raise (some _) none _) _) _ _ _); refine raise_obj rfl ?_)
  k_with "my pairs" => (
  (case hh => rfl); (case hclos => exact closureFor_none (by decide)); (case hcell => decide); (case hkind => rfl); (case hnames => decide); (case hx => rfl); (case hx2 => rfl); (case hxx => decide); (case hs => intro x; rfl))
  k_with "subscriptTail" => (k_here; (with_reducible show wpAny _ _ (subscriptTail _ _ (Value.ref _) (Value.int _ _)) _ _ _); k_dflt (refine' sub_list (by k_asm) (by with_reducible assumption) (by with_reducible assumption) (by omega) ?_; k_whole))
  k_with "call type:range" => (refine hold ?_)
  k_with "my look" => first | with_reducible assumption | (simp +decide only [↓reduceIte]; with_reducible assumption)
  k_with "eval Name" => (k_here; (fail_if_success (with_reducible show wpAny _ _ (eval _ (compEnvC _ _ _ _)) _ _ _)); k_dflt (refine' ld (by k_asm) (by walk_at "my look") ?_; k_whole))
  k_with "exec" => (k_here; (with_reducible show wpAny _ _ (exec (Stmt.While _ _ [] _) _) _ _ _); refine while_out ?_)
  k_with "isTrue UnaryOp" => (k_here; (refine isTrue_not ?_); k_dflt (refine isTrue_plain ?_; refine Call_ ?_))
  k_with "exec Try" => (k_here; refine wpAny_Try_except ?_)
  trivial
section
variable {w : World} {dp un : Nat} {fr : Option (List Env)} {gd : Option (List Code)} {E : Value → Shared → Prop} {s : Shared} {Q : Flow → Shared → Prop} {mean : ExcName → Option Value} {mg mb : Str → Option Value} {base hm : Heap} {outer : List Env} {L fa : Addr} {cd : Value} {m : Str → Option Value} {o o1 o2 o3 o4 : Obj} {gl : List (Addr × Obj)}
theorem law_3 {whole wdx deep ddx part pdx tape row comp : Addr} {rs : Array Value} {b : Bool} {dims : Nat} {t : Tok} (X : (hd.heap_39 w.params).In base) (T : Top hd.view_39 (looseW hd.view_39 []) mean mg mb base) (hdep : dp + 60 < recursionLimit) (hu : un + 400 < cLine) (S : St base hm L s.heap m ((tape, o) :: four L o1 o2 o3 o4) gl) (TF : TapeF w hm L tape row o 2 rs) (e1 : o1.data = .cell (some (.ref deep))) (e2 : o2.data = .cell (some (.ref part))) (e3 : o3.data = .cell (some (.bool b))) (d4 : o4.data = .cell none)
    (hd1 : 1 ≤ dims) (hd2 : dims ≤ 2) (m1 : m (Str.ofString "tape") = some (.ref tape)) (m2 : m (Str.ofString "dims") = some (.int (dims : Nat) t)) (m3 : m (Str.ofString "whole") = some (.ref whole)) (m4 : m (Str.ofString "component") = some (.ref comp)) (Y : Ty1 hm L whole wdx deep ddx part pdx)
    (next : ∀ hm h' tk m' o gl r ls lo le bs os es, St base hm L h' m' ((tape, o) :: four L o1 o2 o3 o4) gl → TapeF w hm L tape row o r rs → r ≤ 20 → m' (Str.ofString "tape") = some (.ref tape) → m' (Str.ofString "dims") = some (.int (dims : Nat) t) → m' (Str.ofString "whole") = some (.ref whole) → m' (Str.ofString "component") = some (.ref comp) → m' (Str.ofString "spans") = some (.ref ls) → m' (Str.ofString "others") = some (.ref lo) → m' (Str.ofString "edges") = some (.ref le) →
      PairsAt hm ls bs → PairsAt hm lo os → PairsAt hm le es → bs.length = dims → os.length = dims → es.length = dims → Within (-5) 6 es → Short es → Ty1 hm L whole wdx deep ddx part pdx →
      wpAny (model PySem.Challenge.rw_xw0007_01.prog w) ((Ar dp un fr gd).deeper (lawEnv L fa cd)) (execs (lawRest 10) (lawEnv L fa cd)) Q E { s with heap := h', toks := tk }) :
    wpAny (model PySem.Challenge.rw_xw0007_01.prog w) ((Ar dp un fr gd).deeper (lawEnv L fa cd)) (execs (lawRest 8) (lawEnv L fa cd)) Q E s := by
  show wpAny _ _ (execs (_ :: _ :: lawRest 10) _) _ _ _
  generalize lawRest 10 = R at next ⊢
  have F := S.F
  have N : News base L s.heap ((tape, o) :: (L + 1, o1) :: (L + 2, o2) :: (L + 3, o3) :: (L + 4, o4) :: gl) := S.N
  obtain ⟨ap1, ap2, ap3, ap4⟩ := four_apart S.dis4
  have htp := TF.above
  obtain ⟨u0, hu0⟩ := TF.dict
  k_steps
  all_goals (try k_data)
  apply unhold
  refine spans_ok (hw := hm) (X.keeps S.bs) (T.keeps S.bs) (by exact S.hm) (by walk_at "my room") (S.out _ (.tail _ (.head _))) (N _ (.head _)).1 hu0 (TF.row.at fun o e => S.hm _ _ e) TF.size TF.allI (by decide) (by decide) hd2 fun h2 tk2 o' u2 l2 bs2 r2 hk2 et2 hd2' lo2 hi2 P2 ne2 len2 W2 => ?_
  have S2 := S.slot hk2 et2 (four_tape htp)
  obtain ⟨hm3, gl3, S3, st3, in3⟩ := S2.again (stays_refl _)
  have hd2h := five_hard S2 hd2' e1 e2 e3 d4
  have Q2 := P2.hide in3 hd2h
  have TF3 := TF.next st3 hd2' lo2
  have Y3 := Y.stays st3
  have F3 := S3.F
  have N3 : News base L h2 ((tape, o') :: (L + 1, o1) :: (L + 2, o2) :: (L + 3, o3) :: (L + 4, o4) :: gl3) := S3.N
  clear F N
  k_steps
  all_goals (try k_data)
  apply unhold
  with_reducible rename Fr _ _ _ _ => F4
  with_reducible rename News _ _ _ _ => N4
  have S4 := S3.walk (cs' := (tape, o') :: four L o1 o2 o3 o4) F4 N4 rfl
  refine spans_ok (hw := hm3) (X.keeps S4.bs) (T.keeps S4.bs) (by exact S4.hm) (by walk_at "my room") (S4.out _ (.tail _ (.head _))) (N4 _ (.head _)).1 hd2' (TF3.row.at fun o e => S4.hm _ _ e) TF.size TF.allI (by omega) (by omega) hd2 fun h5 tk5 o5 u5 l5 bs5 r5 hk5 et5 hd5 lo5 hi5 P5 ne5 len5 W5 => ?_
  have S5 := S4.slot hk5 et5 (four_tape htp)
  obtain ⟨hm6, gl6, S6, st6, in6⟩ := S5.again (stays_refl _)
  have hd5h := five_hard S5 hd5 e1 e2 e3 d4
  have Q5 := P5.hide in6 hd5h
  have TF6 := TF3.next st6 hd5 (by omega)
  have Y6 := Y3.stays st6
  have F6 := S6.F
  have N6 : News base L h5 ((tape, o5) :: (L + 1, o1) :: (L + 2, o2) :: (L + 3, o3) :: (L + 4, o4) :: gl6) := S6.N
  clear F4 N4
  k_steps
  all_goals (try k_data)
  apply unhold
  with_reducible rename Fr _ _ _ _ => F7
  with_reducible rename News _ _ _ _ => N7
  have S7 := S6.walk (cs' := (tape, o5) :: four L o1 o2 o3 o4) F7 (news_sub N7 fun p hp => .tail _ hp) rfl
  refine edges_ok (hw := hm6) (X.keeps S7.bs) (T.keeps S7.bs) (by exact S7.hm) (by walk_at "my room") (S7.out _ (.tail _ (.head _))) (N7 _ (.tail _ (.head _))).1 hd5 (TF6.row.at fun o e => S7.hm _ _ e) TF.size TF.allI (by omega) (by omega) hd2 fun h8 tk8 o8 u8 l8 bs8 r8 hk8 et8 hd8 lo8 hi8 P8 ne8 len8 W8 => ?_
  have S8 := S7.slot hk8 et8 (four_tape htp)
  obtain ⟨hm9, gl9, S9, st9, in9⟩ := S8.again (stays_refl _)
  have hd8h := five_hard S8 hd8 e1 e2 e3 d4
  have Q8 := P8.hide in9 hd8h
  have TF9 := TF6.next st9 hd8 (by omega)
  have Y9 := Y6.stays st9
  have F9 := S9.F
  have N9 : News base L h8 ((tape, o8) :: (L + 1, o1) :: (L + 2, o2) :: (L + 3, o3) :: (L + 4, o4) :: gl9) := S9.N
  clear F7 N7
  k_steps
  all_goals (try k_data)
  with_reducible rename Fr _ _ _ _ => F10
  with_reducible rename News _ _ _ _ => N10
  have S10 := S9.walk (cs' := (tape, o8) :: four L o1 o2 o3 o4) F10 N10 rfl
  exact next _ _ _ _ _ _ _ _ _ _ _ _ _ S10 TF9 (by omega) (by simp +decide only [↓reduceIte]; exact m1) (by simp +decide only [↓reduceIte]; exact m2) (by simp +decide only [↓reduceIte]; exact m3) (by simp +decide only [↓reduceIte]; exact m4) (by simp +decide only [↓reduceIte]) (by simp +decide only [↓reduceIte]) (by simp +decide only [↓reduceIte]) (Q2.stays (stays_trans st6 st9)) (Q5.stays st9) Q8 len2 len5 len8 W8.1 W8.2 Y9
end
/-- the count of the members -/
def countOf (es : List (Int × Int)) : Int := es.foldl (fun c e => c * lenOf e) 1
theorem countOf_snoc {es : List (Int × Int)} {e : Int × Int} : countOf (es ++ [e]) = countOf es * lenOf e := by
  unfold countOf
  rw [List.foldl_append]; rfl
theorem lenOf_le {e : Int × Int} (h : e.2 ≤ e.1 + 2) : 0 ≤ lenOf e ∧ lenOf e ≤ 3 := by
  unfold lenOf; omega
theorem countOf_le : ∀ {es : List (Int × Int)}, Short es → es.length ≤ 2 → 0 ≤ countOf es ∧ countOf es ≤ 9
  | [], _, _ => by decide
  | [a], h, _ => by
    have := lenOf_le (h a (.head _))
    have e : countOf [a] = 1 * lenOf a := rfl
    rw [e]; omega
  | [a, b], h, _ => by
    have h1 := lenOf_le (h a (.head _))
    have h2 := lenOf_le (h b (.tail _ (.head _)))
    have e : countOf [a, b] = 1 * lenOf a * lenOf b := rfl
    rw [e, Int.one_mul]
    refine ⟨Int.mul_nonneg h1.1 h2.1, ?_⟩
    have := Int.mul_le_mul h1.2 h2.2 h2.1 (by decide)
    simpa using this
  | _ :: _ :: _ :: _, _, q => by simp at q
/-- the count so far -/
inductive CountI (base hm : Heap) (L : Addr) (cs gl : List (Addr × Obj)) (es : List (Int × Int)) (m : Str → Option Value) (i : Nat) (h : Heap) : Prop
  | mk (m' : Str → Option Value) (t : Tok) (x : St base hm L h m' cs gl) (c1 : m' (Str.ofString "count") = some (.int (countOf (es.take i)) t)) (c2 : ∀ y, y ≠ Str.ofString "count" → y ≠ Str.ofString "pair" → m' y = m y) : CountI base hm L cs gl es m i h
section
variable {w : World} {dp un : Nat} {fr : Option (List Env)} {gd : Option (List Code)} {E : Value → Shared → Prop} {s : Shared} {Q : Flow → Shared → Prop} {mean : ExcName → Option Value} {mg mb : Str → Option Value} {base hm : Heap} {outer : List Env} {L fa : Addr} {cd : Value} {m : Str → Option Value} {o o1 o2 o3 o4 : Obj} {gl : List (Addr × Obj)}
theorem law_4 {tape le : Addr} {es : List (Int × Int)} (X : (hd.heap_39 w.params).In base) (T : Top hd.view_39 (looseW hd.view_39 []) mean mg mb base) (hdep : dp + 60 < recursionLimit) (hu : un + 400 < cLine) (S : St base hm L s.heap m ((tape, o) :: four L o1 o2 o3 o4) gl)
    (m5 : m (Str.ofString "edges") = some (.ref le)) (P : PairsAt hm le es) (hlen : es.length ≤ 2) (hs : Short es)
    (next : ∀ h' tk m' t, St base hm L h' m' ((tape, o) :: four L o1 o2 o3 o4) gl → m' (Str.ofString "count") = some (.int (countOf es) t) → (∀ y, y ≠ Str.ofString "count" → y ≠ Str.ofString "pair" → m' y = m y) →
      wpAny (model PySem.Challenge.rw_xw0007_01.prog w) ((Ar dp un fr gd).deeper (lawEnv L fa cd)) (execs (lawRest 12) (lawEnv L fa cd)) Q E { s with heap := h', toks := tk }) :
    wpAny (model PySem.Challenge.rw_xw0007_01.prog w) ((Ar dp un fr gd).deeper (lawEnv L fa cd)) (execs (lawRest 10) (lawEnv L fa cd)) Q E s := by
  show wpAny _ _ (execs (_ :: _ :: lawRest 12) _) _ _ _
  generalize lawRest 12 = R at next ⊢
  have F := S.F
  have N : News base L s.heap ((tape, o) :: (L + 1, o1) :: (L + 2, o2) :: (L + 3, o3) :: (L + 4, o4) :: gl) := S.N
  k_steps
  all_goals (try k_data)
  apply unhold
  with_reducible rename Fr _ _ _ _ => F2
  with_reducible rename News _ _ _ _ => N2
  refine for_list rfl ?h ?hs
  case hs => intro x; rfl
  k_steps
  all_goals (try k_data)
  apply unhold
  obtain ⟨pv, P1, P2⟩ := P
  have S2 := S.walk (cs' := (tape, o) :: four L o1 o2 o3 o4) F2 N2 rfl
  refine ⟨le, pv, rfl, P1.isList.at fun o e => S2.hm _ _ e, fun hh K e hK => ?_⟩
  dsimp only at e
  subst e
  have hNK : ∀ p ∈ ((tape, o) :: four L o1 o2 o3 o4) ++ gl, p.1 ≠ K := fun p hp q => by
    have := Heap.lt_size (S2.N p hp).1
    rw [q, hK] at this
    exact Nat.lt_irrefl _ this
  have hLK : L ≠ K := fun q => by
    have := S2.F.ns.lt
    rw [q, hK] at this
    exact Nat.lt_irrefl _ this
  have hK0 : base.get? K = none := by
    cases z : base.get? K with
    | none => rfl
    | some o =>
      have := Heap.lt_size (S2.F.keep _ _ z)
      rw [hK] at this
      exact absurd this (Nat.lt_irrefl _)
  have hlp : pv.size = es.length := by
    have := P2.length
    rwa [Array.length_toList] at this
  have hleK : le ≠ K := fun q => by
    obtain ⟨n, z⟩ := P1
    have := Heap.lt_size (S2.hm _ _ z)
    rw [q, hK] at this
    exact Nat.lt_irrefl _ this
  refine ⟨CountI base hm L ((tape, o) :: four L o1 o2 o3 o4) gl es m,
    ⟨_, _, S2, by simp +decide only [↓reduceIte]; rfl, fun y h1 h2 => by simp only [if_neg h1]⟩, ?_, ?_, ?_⟩
  · rintro i h h' ⟨m', t, x, c1, c2⟩ hk
    exact ⟨m', t, x.past (fun b o hb e => hk b o e (.inr hb)) hLK hK0 hNK, c1, c2⟩
  · rintro i v h3 tk3 oI hv hI hsoft ⟨m', t, x, c1, c2⟩
    obtain ⟨c, p, t1, t2, n, hc, rfl, ho⟩ := P2.get (i := i) (v := v) (by simpa using hv)
    have F3 := x.F
    have N3 := news_with (news_sub x.N (b := (tape, o) :: (L + 1, o1) :: (L + 2, o2) :: (L + 3, o3) :: (L + 4, o4) :: gl) fun p hp => hp) hI hLK.symm hK0
    have hcm := List.mem_of_getElem? hc
    have hl3 := lenOf_le (hs c hcm)
    have hc9 := countOf_le (es := es.take i) (fun e he => hs e (List.mem_of_mem_take he)) (by rw [List.length_take]; omega)
    clear F2 N2
    k_steps
    all_goals (try k_data)
    apply unhold
    with_reducible rename Fr _ _ _ _ => F4
    with_reducible rename News _ _ _ _ => N4
    have S4 := x.walk (cs' := (tape, o) :: four L o1 o2 o3 o4) F4 (news_sub N4 fun p hp => .tail _ hp) rfl
    refine law_length_ok (X.keeps F4.keep) (T.keeps F4.keep) (by walk_at "my room") (S4.hm _ _ ho) fun h5 tk5 t5 hk5 => ?_
    have F5 := Fr.keeps F4 hk5
    have N5 := News.grown N4 hk5
    clear F4 N4
    generalize hcc : countOf (es.take i) = cc at *
    generalize hll : lenOf c = ll at *
    k_steps
    all_goals (try k_data)
    with_reducible rename Fr _ _ _ _ => F6
    with_reducible rename News _ _ _ _ => N6
    have S6 := x.walk (cs' := (tape, o) :: four L o1 o2 o3 o4) F6 (news_sub N6 fun p hp => .tail _ hp) rfl
    refine ⟨_, _, rfl, (N6 _ (.head _)).1, fun ob z => ?_, _, _, S6, by rw [take_snoc hc, countOf_snoc, hcc, hll]; simp +decide only [↓reduceIte]; rfl, fun y h1 h2 => by simp only [if_neg h1, if_neg h2]; exact c2 y h1 h2⟩
    obtain ⟨n, q⟩ := P1
    rw [x.hm _ _ q] at z
    cases z
    exact S6.hm _ _ q
  · rintro h' tk' ⟨m', t, x, c1, c2⟩
    rw [hlp, List.take_length] at c1
    exact next _ _ _ _ x c1 c2
end
section
theorem lines_G5_1 : True := by
  k_with "exec For Name Call cons nil" => (refine hold ?_)
  trivial
variable {w : World} {dp un : Nat} {fr : Option (List Env)} {gd : Option (List Code)} {E : Value → Shared → Prop} {s : Shared} {Q : Flow → Shared → Prop} {mean : ExcName → Option Value} {mg mb : Str → Option Value} {base hm : Heap} {outer : List Env} {L fa : Addr} {cd : Value} {m : Str → Option Value} {o o1 o2 o3 o4 : Obj} {gl : List (Addr × Obj)}
theorem law_5 {tape row deep part : Addr} {rs : Array Value} {r : Int} {b : Bool} (X : (hd.heap_39 w.params).In base) (T : Top hd.view_39 (looseW hd.view_39 []) mean mg mb base) (hdep : dp + 60 < recursionLimit) (hu : un + 400 < cLine) (S : St base hm L s.heap m ((tape, o) :: four L o1 o2 o3 o4) gl) (TF : TapeF w hm L tape row o r rs) (e1 : o1.data = .cell (some (.ref deep))) (e2 : o2.data = .cell (some (.ref part))) (e3 : o3.data = .cell (some (.bool b))) (d4 : o4.data = .cell none)
    (next : ∀ hm' h' tk o4 gl cl c1 c2 dc1 dc2 t1 t2, St base hm' L h' m ((tape, o) :: four L o1 o2 o3 o4) gl → o4.data = .cell (some (.ref cl)) → hm.StaysIn hm' → hm'.PlainList cl #[.ref c1, .ref c2] → Has hm' c1 dc1 110 (Str.ofString "number") (.int 1 t1) → Has hm' c2 dc2 110 (Str.ofString "number") (.int 2 t2) →
      wpAny (model PySem.Challenge.rw_xw0007_01.prog w) ((Ar dp un fr gd).deeper (lawEnv L fa cd)) (execs (lawRest 13) (lawEnv L fa cd)) Q E { s with heap := h', toks := tk }) :
    wpAny (model PySem.Challenge.rw_xw0007_01.prog w) ((Ar dp un fr gd).deeper (lawEnv L fa cd)) (execs (lawRest 12) (lawEnv L fa cd)) Q E s := by
  show wpAny _ _ (execs (_ :: lawRest 13) _) _ _ _
  generalize lawRest 13 = R at next ⊢
  have F := S.F
  have N : News base L s.heap ((tape, o) :: (L + 1, o1) :: (L + 2, o2) :: (L + 3, o3) :: (L + 4, o4) :: gl) := S.N
  have htp := TF.above
  obtain ⟨u0, hu0⟩ := TF.dict
  have hard := five_hard S hu0 e1 e2 e3 d4
  k_steps
  all_goals (try k_data)
  apply unhold
  refine new_cell (by exact X.keeps F.keep) (by exact T.keeps F.keep) (by walk_at "my room") fun h2 tk2 c1 dc1 hk2 hd2 C1 => ?_
  obtain ⟨hm3, gl3, S3, st3, in3⟩ := S.again hk2
  have C13 := C1.hide in3 (hard.stays hk2).soft (fresh_out hard.soft hd2)
  have F3 := S3.F
  have N3 : News base L h2 ((tape, o) :: (L + 1, o1) :: (L + 2, o2) :: (L + 3, o3) :: (L + 4, o4) :: gl3) := S3.N
  clear F N
  k_steps
  all_goals (try k_data)
  apply unhold
  with_reducible rename Fr _ _ _ _ => F4
  with_reducible rename News _ _ _ _ => N4
  have S4 := S3.walk (cs' := (tape, o) :: four L o1 o2 o3 o4) F4 N4 rfl
  have hard4 := five_hard S4 hu0 e1 e2 e3 d4
  refine new_cell (X.keeps F4.keep) (T.keeps F4.keep) (by walk_at "my room") fun h5 tk5 c2 dc2 hk5 hd5 C2 => ?_
  obtain ⟨hm6, gl6, S6, st6, in6⟩ := S4.again hk5
  have C26 := C2.hide in6 (hard4.stays hk5).soft (fresh_out hard4.soft hd5)
  have C16 := C13.stays st6
  have F6 := S6.F
  have N6 : News base L h5 ((tape, o) :: (L + 1, o1) :: (L + 2, o2) :: (L + 3, o3) :: (L + 4, o4) :: gl6) := S6.N
  obtain ⟨ap1, ap2, ap3, ap4⟩ := four_apart S6.dis4
  clear F4 N4
  k_steps
  all_goals (try k_data)
  with_reducible rename Fr _ _ _ _ => F7
  with_reducible rename News _ _ _ _ => N7
  with_reducible rename _ = Data.cell (some (Value.ref _)) => e4
  with_reducible rename Obj => o4n
  have S7 := S6.walk (cs' := (tape, o) :: four L o1 o2 o3 o4n) F7 (news_sub N7 fun p hp => .tail _ hp) rfl
  have hard7 := five_hard S7 hu0 e1 e2 e3 e4
  obtain ⟨hm8, gl8, S8, st8, in8⟩ := S7.again (stays_refl _)
  have ecl := (N7 _ (.head _)).1
  exact next _ _ _ _ _ _ _ _ _ _ _ _ S8 e4 (stays_trans st3 (stays_trans st6 st8)) ⟨_, in8 _ _ ecl (hard7.seq ecl rfl)⟩ (C16.stays st8) (C26.stays st8)
end
theorem lines_G5_2 : True := by
  k_with_none
  k_with "eval ListComp" => (refine hold ?_)
  k_with "exec For" => (refine hold ?_)
  k_with "exec For Name Attribute cons nil" => (refine hold ?_)
  k_with "exec For Name Name cons nil" => (refine hold ?_)
  k_with "exec For Name Call cons nil" => (refine hold ?_)
  k_with "exec For Tuple Name cons nil" => (refine hold ?_)
  k_with "getAttr ref" => (k_here; k_dflt (refine' get_has (by k_asm) (by k_asm) (by with_reducible assumption) (by k_is) (by k_is) (by k_is) (by k_is) (by exact rfl) ?_; k_whole))
  k_with "my comp" => (
  (case hh => rfl); (case hclos => exact closureFor_none (by decide)); (case hcell => decide); (case hkind => rfl); (case hnames => decide); (case hx => rfl); (case hs => intro x; rfl))
  k_with "my room" => first | omega | (dsimp only [Around.deeper, Around.in1]; omega)
  k_with "call ref" => (refine hold ?_)
  k_with "subscriptTail" => (k_here; (with_reducible show wpAny _ _ (subscriptTail _ _ (Value.ref _) (Value.str _ _)) _ _ _); k_dflt (refine' sub_dict (by k_asm) (by with_reducible assumption) (by with_reducible assumption) ?_; k_whole))
  k_with "subscriptTail" => (k_here; (with_reducible show wpAny _ _ (subscriptTail _ _ (Value.ref _) (Value.str _ _)) _ _ _); k_dflt (refine' sub_dictN (by k_asm) (by first | k_mem | (simp; done)) (by with_reducible assumption) (by with_reducible assumption) ?_; k_whole))
  k_with "exec Raise some none" => (k_here; (with_reducible show wpAny _ _ (exec (Stmt.Raise (some _) none _) _) _ _ _); refine raise_obj rfl ?_)
  k_with "my pairs" => (
  (case hh => rfl); (case hclos => exact closureFor_none (by decide)); (case hcell => decide); (case hkind => rfl); (case hnames => decide); (case hx => rfl); (case hx2 => rfl); (case hxx => decide); (case hs => intro x; rfl))
  k_with "subscriptTail" => (k_here; (with_reducible show wpAny _ _ (subscriptTail _ _ (Value.ref _) (Value.int _ _)) _ _ _); k_dflt (refine' sub_list (by k_asm) (by with_reducible assumption) (by with_reducible assumption) (by omega) ?_; k_whole))
  k_with "call type:range" => (refine hold ?_)
  k_with "my look" => first | with_reducible assumption | (simp +decide only [↓reduceIte]; with_reducible assumption)
  k_with "eval Name" => (k_here; (fail_if_success (with_reducible show wpAny _ _ (eval _ (compEnvC _ _ _ _)) _ _ _)); k_dflt (refine' ld (by k_asm) (by walk_at "my look") ?_; k_whole))
  k_with "exec" => (k_here; (with_reducible show wpAny _ _ (exec (Stmt.While _ _ [] _) _) _ _ _); refine while_out ?_)
  k_with "isTrue UnaryOp" => (k_here; (refine isTrue_not ?_); k_dflt (refine isTrue_plain ?_; refine Call_ ?_))
  k_with "exec Try" => (k_here; refine wpAny_Try_except ?_)
  trivial
def membersD (n : Nat) (b : Bool) : List D := (List.range n).map fun i => memberD (i : Nat) b
theorem membersD_len {n : Nat} {b : Bool} : (membersD n b).length = n := by simp [membersD]
theorem membersD_get {n : Nat} {b : Bool} {i : Nat} (h : i < n) : (membersD n b)[i]? = some (memberD (i : Nat) b) := by
  simp [membersD, h]
theorem membersD_take {n : Nat} {b : Bool} : (membersD n b).take n = membersD n b := by
  have := List.take_length (l := membersD n b)
  rwa [membersD_len] at this
def Zof (ddx pdx d1 d2 : Addr) (x : Addr) : Prop := x = ddx ∨ x = pdx ∨ x = d1 ∨ x = d2
theorem lies_hide {prog : Program} {w : World} {h hm : Heap} {H S : List Addr} {Z : Addr → Prop} {n : Nat} {v : Value} {d : D} (x : Lies prog w h Z n S v d) (hin : ∀ b o, h.get? b = some o → b ∉ H → hm.get? b = some o) (k : Hard h H) (hS : ∀ x ∈ S, x ∉ H) (hZ : ∀ x, Z x → x ∉ H) : Lies prog w hm Z n S v d :=
  x.move (fun _ q => q) fun b o e hb => hin b o e fun hx => by
    rcases hb with hb | hb | hb
    · exact hS b hb hx
    · exact hZ b hb hx
    · obtain ⟨o', e', hn⟩ := k.soft b hx
      rw [e] at e'; cases e'
      exact hn hb
section
variable {w : World} {dp un : Nat} {fr : Option (List Env)} {gd : Option (List Code)} {E : Value → Shared → Prop} {s : Shared} {Q : Value → Shared → Prop} {mean : ExcName → Option Value} {mg mb : Str → Option Value}
theorem member_ok {b : Bool} (X : (hd.heap_39 w.params).In s.heap) (T : Top hd.view_39 (looseW hd.view_39 []) mean mg mb s.heap) (hdep : dp + 4 < recursionLimit) {deep ddx part pdx cells c1 c2 d1 d2 : Addr} {t1 t2 t3 t4 : Tok} {seed : Int} {t : Tok} (h0 : 0 ≤ seed) (h1 : seed ≤ 100)
    (H1 : Has s.heap deep ddx 229 (Str.ofString "number") (.int 91 t1)) (H2 : Has s.heap part pdx 229 (Str.ofString "number") (.int 93 t2)) (H3 : s.heap.PlainList cells #[.ref c1, .ref c2]) (H4 : Has s.heap c1 d1 110 (Str.ofString "number") (.int 1 t3)) (H5 : Has s.heap c2 d2 110 (Str.ofString "number") (.int 2 t4))
    (hQ : ∀ h' tk v' S', s.heap.StaysIn h' → Lies PySem.Challenge.rw_xw0007_01.prog w h' (Zof ddx pdx d1 d2) 3 S' v' (memberD seed b) → (∀ x ∈ S', s.heap.get? x = none) → S'.Nodup → Q v' { s with heap := h', toks := tk }) :
    wpAny (model PySem.Challenge.rw_xw0007_01.prog w) (Ar dp un fr gd) (call (.ref 647) [.ref deep, .ref part, .int seed t, .bool b, .ref cells]) Q E s := by
  cases b with
  | false => exact member_int X T hdep h0 h1 fun h' tk t' k => hQ h' tk _ [] k lies_int (fun x hx => absurd hx List.not_mem_nil) List.nodup_nil
  | true => exact member_rec X T hdep h0 h1 H1 H2 H3 H4 H5 (fun x => Iff.rfl) hQ
end
section
theorem lines_G6_1 : True := by
  k_with "call type:list" => (refine hold ?_)
  trivial
variable {w : World} {dp un : Nat} {fr : Option (List Env)} {gd : Option (List Code)} {E : Value → Shared → Prop} {s : Shared} {Q : Flow → Shared → Prop} {mean : ExcName → Option Value} {mg mb : Str → Option Value} {base hm : Heap} {outer : List Env} {L fa : Addr} {cd : Value} {m : Str → Option Value} {o o1 o2 o3 o4 : Obj} {gl : List (Addr × Obj)}
theorem law_6 {whole wdx deep ddx part pdx tape row le cl c1 c2 dc1 dc2 : Addr} {rs : Array Value} {r : Int} {b : Bool} {n : Nat} {t t1 t2 : Tok} {es : List (Int × Int)} (X : (hd.heap_39 w.params).In base) (T : Top hd.view_39 (looseW hd.view_39 []) mean mg mb base) (hdep : dp + 60 < recursionLimit) (hu : un + 400 < cLine) (S : St base hm L s.heap m ((tape, o) :: four L o1 o2 o3 o4) gl) (TF : TapeF w hm L tape row o r rs) (e1 : o1.data = .cell (some (.ref deep))) (e2 : o2.data = .cell (some (.ref part))) (e3 : o3.data = .cell (some (.bool b))) (e4 : o4.data = .cell (some (.ref cl)))
    (m5 : m (Str.ofString "edges") = some (.ref le)) (m6 : m (Str.ofString "count") = some (.int (n : Nat) t)) (hn : n ≤ 9) (P : PairsAt hm le es) (hlen : es.length ≤ 2) (Y : Ty1 hm L whole wdx deep ddx part pdx) (CL : hm.PlainList cl #[.ref c1, .ref c2]) (C1 : Has hm c1 dc1 110 (Str.ofString "number") (.int 1 t1)) (C2 : Has hm c2 dc2 110 (Str.ofString "number") (.int 2 t2))
    (next : ∀ hm' h' tk m' gl v S0, St base hm' L h' m' ((tape, o) :: four L o1 o2 o3 o4) gl → hm.StaysIn hm' → m' (Str.ofString "value") = some (.ref v) → (∀ y, y ≠ Str.ofString "value" → m' y = m y) → Lies PySem.Challenge.rw_xw0007_01.prog w hm' (Zof ddx pdx dc1 dc2) 4 S0 (.ref v) (.arr es (membersD n b)) → S0.Nodup → (∀ x ∈ S0, hm.get? x = none) →
      wpAny (model PySem.Challenge.rw_xw0007_01.prog w) ((Ar dp un fr gd).deeper (lawEnv L fa cd)) (execs (lawRest 14) (lawEnv L fa cd)) Q E { s with heap := h', toks := tk }) :
    wpAny (model PySem.Challenge.rw_xw0007_01.prog w) ((Ar dp un fr gd).deeper (lawEnv L fa cd)) (execs (lawRest 13) (lawEnv L fa cd)) Q E s := by
  show wpAny _ _ (execs (_ :: lawRest 14) _) _ _ _
  generalize lawRest 14 = R at next ⊢
  have F := S.F
  have N : News base L s.heap ((tape, o) :: (L + 1, o1) :: (L + 2, o2) :: (L + 3, o3) :: (L + 4, o4) :: gl) := S.N
  have htp := TF.above
  obtain ⟨u0, hu0⟩ := TF.dict
  obtain ⟨pv, P1, P2⟩ := P
  have pvs : pv.size ≤ sizeLine := by
    have := P2.length
    rw [Array.length_toList] at this
    rw [this, sizeLine]; omega
  k_steps
  all_goals (try k_data)
  apply unhold
  with_reducible rename Fr _ _ _ _ => F2
  with_reducible rename News _ _ _ _ => N2
  refine list_copyK F2 N2 (P1.isList.at fun ob e => S.hm _ _ e) (fun D c h3 F3 N3 lt3 => ?_) pvs
  have S3 := S.walk (cs' := (tape, o) :: four L o1 o2 o3 o4) F3 (news_sub N3 fun p hp => .tail _ hp) rfl
  have ltD : AllLt D ((tape, o) :: (L + 1, o1) :: (L + 2, o2) :: (L + 3, o3) :: (L + 4, o4) :: gl) := allLt_of lt3
  clear F2 N2
  k_steps
  all_goals (try k_data)
  apply unhold
  refine' comp_range (cl := _) ?hh ?hclos ?hcell ?hkind ?hnames ?hx ?h ?hs
  case hh => rfl
  case hclos => with_unfolding_all rfl
  case hcell => decide
  case hkind => rfl
  case hnames => decide
  case hx => rfl
  case hs => intro x; rfl
  k_steps
  all_goals (try k_data)
  apply unhold
  refine call_range_1 ?_
  apply unhold
  refine ⟨_, n, _, _, _, rfl, IsRange.new .., by omega, fun hh K e hK => ?_⟩
  have FH := fr_pushed F3 e
  have NH := news_pushed N3 e
  have stH : h3.StaysIn hh := fun b o q => e ▸ Heap.get?_push_of_some _ q
  have SH := S3.call stH
  clear F3 N3
  obtain ⟨_, _, _, D1⟩ := Y.deep
  obtain ⟨t3, D2⟩ := D1.number
  obtain ⟨_, _, _, E1⟩ := Y.part
  obtain ⟨t4, E2⟩ := E1.number
  have hZl : ∀ x, Zof ddx pdx dc1 dc2 x → ∃ o, hm.get? x = some o := fun x hx => by
    rcases hx with rfl | rfl | rfl | rfl
    · exact D2.live
    · exact E2.live
    · exact C1.live
    · exact C2.live
  have hZK : ∀ x, Zof ddx pdx dc1 dc2 x → @LT.lt Nat _ x K := fun x hx => by
    obtain ⟨o, z⟩ := hZl x hx
    rw [hK]; exact Heap.lt_size (SH.hm _ _ z)
  have hard := five_hard SH hu0 e1 e2 e3 e4
  refine ⟨[], LiN w (Zof ddx pdx dc1 dc2) 3 (membersD n b) hh K, (fun _ hb => absurd hb List.not_mem_nil), ⟨[], rfl, List.nodup_nil, fun _ hb => absurd hb List.not_mem_nil⟩, ?_, ?_, ?_⟩
  · rintro i ys h h' ⟨S', r', nd, hx⟩ hk
    refine ⟨S', r'.mono fun S1 v d hS _ y => y.move (fun _ q => q) fun b o e hb => hk b o e ?_, nd, hx⟩
    rcases hb with hb | hb | hb
    · exact .inr (hx b (hS b hb)).2
    · have := hZK b hb
      exact .inr ⟨neN (by omega), neN (by omega), neN (by omega)⟩
    · exact .inl hb
  · rintro i ti ys h4 g4 d4 t4' os4 m₄ hi ⟨S', r', nd, hx⟩ hns hmt hsz hlv hk
    have hkk : hh.StaysIn h4 := fun b o e => hk b o List.not_mem_nil e
    have FC : Fr base (K + 2) h4 m₄ := ⟨hns, fun b o e => hkk b o (FH.keep b o e), Nat.le_trans FH.above (by have := FH.ns.lt; rw [hK]; exact Nat.le_of_lt (Nat.lt_of_lt_of_le this (Nat.le_add_right _ _)))⟩
    have NC : News base (K + 2) h4 [(L + 1, o1), (L + 2, o2), (L + 3, o3), (L + 4, o4)] := fun p hp => by
      have z := NH p (.tail _ (.tail _ (List.mem_append_left gl hp)))
      refine ⟨hkk _ _ z.1, neN (by have := ltN (Heap.lt_size z.1); (try dsimp only at this ⊢); omega), z.2.2⟩
    have hm4 : hm.StaysIn h4 := stays_trans SH.hm hkk
    have r4 := r'
    have hx4 : ∀ x ∈ S', ∃ o, h4.get? x = some o := r'.liveAll fun _ _ _ q => q.live
    clear FH NH
    k_steps
    all_goals (try k_data)
    apply unhold
    with_reducible rename Fr _ _ _ _ => F5
    refine member_ok (by exact X.keeps F5.keep) (by exact T.keeps F5.keep) (by walk_at "my room") (by omega) (by omega) (D2.stays hm4) (E2.stays hm4) (CL.at fun o e => hm4 _ _ e) (C1.stays hm4) (C2.stays hm4) fun h6 tk6 v6 S6 hk6 l6 hx6 nd6 => ?_
    try k_unfold
    refine ⟨h6, tk6, rfl, fun b o _ _ e => hk6 b o e, ⟨_, F5.ns.keeps hk6⟩, S' ++ S6, ?_, ?_, ?_⟩
    · rw [take_snoc (membersD_get hi)]
      exact (r4.stays hk6).snoc l6
    · refine List.nodup_append.mpr ⟨nd, nd6, fun x h1 y h2 => ?_⟩
      obtain ⟨o, e⟩ := hx4 x h1
      exact fresh_ne e (hx6 y h2)
    · intro x hx'
      rcases List.mem_append.mp hx' with q | q
      · exact hx x q
      · have q3 := hx6 x q
        refine ⟨stays_none hkk q3, ?_, ?_, ?_⟩
        · obtain ⟨o, e⟩ := hlv K (.inl rfl); exact (fresh_ne e q3).symm
        · obtain ⟨o, e⟩ := hlv (K + 1) (.inr (.inl rfl)); exact (fresh_ne e q3).symm
        · obtain ⟨o, e⟩ := hlv (K + 2) (.inr (.inr rfl)); exact (fresh_ne e q3).symm
  · rintro h' tk' ys hpl hys ⟨S', r', nd, hx⟩ hk
    have hkk : hh.StaysIn h' := fun b o e => hk b o List.not_mem_nil e
    have F6 := Fr.keeps FH hkk
    have N6 := News.grown NH hkk
    have S6 := SH.call hkk
    have eD := (NH _ (.head _)).1
    have bD := (NH _ (.head _)).2.2
    dsimp only at eD bD
    have hx3 : ∀ x ∈ S', ∃ o, h'.get? x = some o := r'.liveAll fun _ _ _ q => q.live
    have hl3 : ∃ o, h'.get? (K + 1) = some o := let ⟨_, e⟩ := hpl; ⟨_, e⟩
    have hK1 : hh.get? (K + 1) = none := by rw [hK]; exact Heap.get?_none_of_le (Nat.le_add_right _ _)
    have hDK : D ≠ K + 1 := fun q => by rw [q, hK1] at eD; cases eD
    rw [membersD_take] at r'
    clear FH NH
    k_steps
    all_goals (try k_data)
    apply unhold
    with_reducible rename Fr _ _ _ _ => F7
    refine new_array (by exact X.keeps F7.keep) (by exact T.keeps F7.keep) (by walk_at "my room") fun h8 tk8 a8 dx8 Tw => ?_
    obtain ⟨k8, lo8, g1, g2⟩ := Tw
    have V : Lies PySem.Challenge.rw_xw0007_01.prog w h8 (Zof ddx pdx dc1 dc2) 4 (dx8 :: D :: (K + 1) :: S') (.ref a8) (.arr es (membersD n b)) :=
      ⟨a8, dx8, D, K + 1, ys, S', rfl, rfl, g1, g2, ⟨pv, ⟨c, k8 _ _ (hkk _ _ eD)⟩, P2.keep fun b o e _ => k8 _ _ (hkk _ _ (SH.hm _ _ e))⟩, hpl.at fun o e => k8 _ _ e, r'.stays k8, by omega, by rw [membersD_len]; omega⟩
    have S8 := S6.call k8
    obtain ⟨hm9, gl9, S9, st9, in9⟩ := S8.again (stays_refl _)
    have hard6 := hard.stays hkk
    have hDL : D ∉ L :: ((tape, o) :: four L o1 o2 o3 o4).map (·.1) := hard.seq eD rfl
    have V9 := lies_hide V in9 (hard6.stays k8) (fun x hm => by
      simp only [List.mem_cons] at hm
      rcases hm with rfl | rfl | rfl | hm
      · exact fresh_out hard6.soft lo8
      · exact hDL
      · exact fresh_out hard.soft hK1
      · exact fresh_out hard.soft (hx x hm).1) (fun x hz hx => by
      obtain ⟨o, z⟩ := hZl x hz
      rw [S.out x hx] at z; cases z)
    have nd9 : (dx8 :: D :: (K + 1) :: S').Nodup := by
      refine List.nodup_cons.mpr ⟨fun hm => ?_, List.nodup_cons.mpr ⟨fun hm => ?_, List.nodup_cons.mpr ⟨fun hm => (hx _ hm).2.2.1 rfl, nd⟩⟩⟩
      · simp only [List.mem_cons] at hm
        rcases hm with rfl | rfl | hm
        · exact fresh_ne (hkk _ _ eD) lo8 rfl
        · obtain ⟨o, e⟩ := hl3
          exact fresh_ne e lo8 rfl
        · obtain ⟨o, e⟩ := hx3 _ hm
          exact fresh_ne e lo8 rfl
      · simp only [List.mem_cons] at hm
        rcases hm with e | hm
        · exact hDK e
        · exact fresh_ne eD (hx _ hm).1 rfl
    have hDm : hm.get? D = none := by
      cases z : hm.get? D with
      | none => rfl
      | some ob =>
        rcases S.cov _ _ z with h1 | h1
        · rw [bD] at h1; cases h1
        · have := ktn_ltOf ltD _ (List.mem_append_right ((tape, o) :: four L o1 o2 o3 o4) h1)
          exact absurd this (Nat.lt_irrefl _)
    have fr9 : ∀ x ∈ dx8 :: D :: (K + 1) :: S', hm.get? x = none := fun x hm => by
      simp only [List.mem_cons] at hm
      rcases hm with rfl | rfl | rfl | hm
      · exact stays_none S6.hm lo8
      · exact hDm
      · exact stays_none SH.hm hK1
      · exact stays_none SH.hm (hx x hm).1
    have F9 := S9.F
    have N9 : News base L h8 ((tape, o) :: (L + 1, o1) :: (L + 2, o2) :: (L + 3, o3) :: (L + 4, o4) :: gl9) := S9.N
    clear F7
    k_steps
    all_goals (try k_data)
    with_reducible rename Fr _ _ _ _ => F10
    with_reducible rename News _ _ _ _ => N10
    have S10 := S9.walk (cs' := (tape, o) :: four L o1 o2 o3 o4) F10 N10 rfl
    exact next _ _ _ _ _ a8 _ S10 st9 (by simp +decide only [↓reduceIte]) (fun y h1 => by simp only [if_neg h1]) V9 nd9 fr9
end
theorem lines_G6_2 : True := by
  k_with_none
  k_with "eval ListComp" => (refine hold ?_)
  k_with "exec For" => (refine hold ?_)
  k_with "exec For Name Attribute cons nil" => (refine hold ?_)
  k_with "exec For Name Name cons nil" => (refine hold ?_)
  k_with "exec For Name Call cons nil" => (refine hold ?_)
  k_with "exec For Tuple Name cons nil" => (refine hold ?_)
  k_with "getAttr ref" => (k_here; k_dflt (refine' get_has (by k_asm) (by k_asm) (by with_reducible assumption) (by k_is) (by k_is) (by k_is) (by k_is) (by exact rfl) ?_; k_whole))
  k_with "my comp" => (
  (case hh => rfl); (case hclos => exact closureFor_none (by decide)); (case hcell => decide); (case hkind => rfl); (case hnames => decide); (case hx => rfl); (case hs => intro x; rfl))
  k_with "my room" => first | omega | (dsimp only [Around.deeper, Around.in1]; omega)
  k_with "call ref" => (refine hold ?_)
  k_with "subscriptTail" => (k_here; (with_reducible show wpAny _ _ (subscriptTail _ _ (Value.ref _) (Value.str _ _)) _ _ _); k_dflt (refine' sub_dict (by k_asm) (by with_reducible assumption) (by with_reducible assumption) ?_; k_whole))
  k_with "subscriptTail" => (k_here; (with_reducible show wpAny _ _ (subscriptTail _ _ (Value.ref _) (Value.str _ _)) _ _ _); k_dflt (refine' sub_dictN (by k_asm) (by first | k_mem | (simp; done)) (by with_reducible assumption) (by with_reducible assumption) ?_; k_whole))
  k_with "exec Raise some none" => (k_here; (with_reducible show wpAny _ _ (exec (Stmt.Raise (some _) none _) _) _ _ _); refine raise_obj rfl ?_)
  k_with "my pairs" => (
  (case hh => rfl); (case hclos => exact closureFor_none (by decide)); (case hcell => decide); (case hkind => rfl); (case hnames => decide); (case hx => rfl); (case hx2 => rfl); (case hxx => decide); (case hs => intro x; rfl))
  k_with "subscriptTail" => (k_here; (with_reducible show wpAny _ _ (subscriptTail _ _ (Value.ref _) (Value.int _ _)) _ _ _); k_dflt (refine' sub_list (by k_asm) (by with_reducible assumption) (by with_reducible assumption) (by omega) ?_; k_whole))
  k_with "call type:range" => (refine hold ?_)
  k_with "my look" => first | with_reducible assumption | (simp +decide only [↓reduceIte]; with_reducible assumption)
  k_with "eval Name" => (k_here; (fail_if_success (with_reducible show wpAny _ _ (eval _ (compEnvC _ _ _ _)) _ _ _)); k_dflt (refine' ld (by k_asm) (by walk_at "my look") ?_; k_whole))
  k_with "exec" => (k_here; (with_reducible show wpAny _ _ (exec (Stmt.While _ _ [] _) _) _ _ _); refine while_out ?_)
  k_with "isTrue UnaryOp" => (k_here; (refine isTrue_not ?_); k_dflt (refine isTrue_plain ?_; refine Call_ ?_))
  k_with "exec Try" => (k_here; refine wpAny_Try_except ?_)
  trivial
theorem IdxF.hide {h₀ h hm : Heap} {H : List Addr} {l whole : Addr} {bs : List (Int × Int)} (x : IdxF h₀ h l whole bs) (hin : ∀ b o, h.get? b = some o → b ∉ H → hm.get? b = some o) (k : Hard h H) (k0 : Hard h₀ H) : IdxAt hm l whole bs := by
  obtain ⟨vs, ⟨n, e⟩, r⟩ := x
  refine ⟨vs, ⟨n, hin _ _ e (k.seq e rfl)⟩, (r.keep fun b o e hb => ?_).idx⟩
  rcases hb with sf | hb
  · exact soft_hide hin k.soft e sf
  · exact hin _ _ e (fresh_out k0.soft hb)
/-- an unconstrained array type -/
def ArrT (hm : Heap) (ty : Addr) (num : Int) (whole : Addr) (bs : List (Int × Int)) : Prop := ∃ tdx il lo hi, TyH hm ty tdx (Str.ofString "array") num lo hi (.ref il) false ∧ IdxAt hm il whole bs
theorem ArrT.stays {hm hm' : Heap} {ty : Addr} {num : Int} {whole : Addr} {bs : List (Int × Int)} (x : ArrT hm ty num whole bs) (k : hm.StaysIn hm') : ArrT hm' ty num whole bs := let ⟨a, b, c, d, y, z⟩ := x; ⟨a, b, c, d, y.stays k, z.stays k⟩
section
variable {w : World} {dp un : Nat} {fr : Option (List Env)} {gd : Option (List Code)} {E : Value → Shared → Prop} {s : Shared} {Q : Flow → Shared → Prop} {mean : ExcName → Option Value} {mg mb : Str → Option Value} {base hm : Heap} {outer : List Env} {L fa : Addr} {cd : Value} {m : Str → Option Value} {o o1 o2 o3 o4 : Obj} {gl : List (Addr × Obj)}
theorem law_7 {whole deep part tape row ls lo comp cl : Addr} {rs : Array Value} {r : Int} {b : Bool} {bs os : List (Int × Int)} (X : (hd.heap_39 w.params).In base) (T : Top hd.view_39 (looseW hd.view_39 []) mean mg mb base) (hdep : dp + 60 < recursionLimit) (hu : un + 400 < cLine) (S : St base hm L s.heap m ((tape, o) :: four L o1 o2 o3 o4) gl) (TF : TapeF w hm L tape row o r rs) (e1 : o1.data = .cell (some (.ref deep))) (e2 : o2.data = .cell (some (.ref part))) (e3 : o3.data = .cell (some (.bool b))) (e4 : o4.data = .cell (some (.ref cl)))
    (m3 : m (Str.ofString "whole") = some (.ref whole)) (m4 : m (Str.ofString "component") = some (.ref comp)) (m7 : m (Str.ofString "spans") = some (.ref ls)) (m8 : m (Str.ofString "others") = some (.ref lo)) (P1 : PairsAt hm ls bs) (P2 : PairsAt hm lo os) (hb : bs.length ≤ 2) (ho : os.length ≤ 2)
    (next : ∀ hm' h' tk m' gl t t2, St base hm' L h' m' ((tape, o) :: four L o1 o2 o3 o4) gl → hm.StaysIn hm' → m' (Str.ofString "t") = some (.ref t) → m' (Str.ofString "other") = some (.ref t2) → (∀ y, y ≠ Str.ofString "t" → y ≠ Str.ofString "other" → m' y = m y) → ArrT hm' t 94 whole bs → ArrT hm' t2 95 whole os →
      wpAny (model PySem.Challenge.rw_xw0007_01.prog w) ((Ar dp un fr gd).deeper (lawEnv L fa cd)) (execs (lawRest 15) (lawEnv L fa cd)) Q E { s with heap := h', toks := tk }) :
    wpAny (model PySem.Challenge.rw_xw0007_01.prog w) ((Ar dp un fr gd).deeper (lawEnv L fa cd)) (execs (lawRest 14) (lawEnv L fa cd)) Q E s := by
  show wpAny _ _ (execs (_ :: lawRest 15) _) _ _ _
  generalize lawRest 15 = R at next ⊢
  have F := S.F
  have N : News base L s.heap ((tape, o) :: (L + 1, o1) :: (L + 2, o2) :: (L + 3, o3) :: (L + 4, o4) :: gl) := S.N
  have htp := TF.above
  obtain ⟨u0, hu0⟩ := TF.dict
  have hard := five_hard S hu0 e1 e2 e3 e4
  k_steps
  all_goals (try k_data)
  apply unhold
  refine law_type_ok (by exact X.keeps F.keep) (by exact T.keeps F.keep) (by walk_at "my room") (by exact P1.stays S.hm) (by omega) fun h2 tk2 x dx il lo' hi' hk2 hdx TH I2 => ?_
  obtain ⟨hm3, gl3, S3, st3, in3⟩ := S.again hk2
  have A3 : ArrT hm3 x 94 whole bs := ⟨_, _, _, _, TH.hide in3 (hard.stays hk2).soft (fresh_out hard.soft hdx), I2.hide in3 (hard.stays hk2) hard⟩
  have F3 := S3.F
  have N3 : News base L h2 ((tape, o) :: (L + 1, o1) :: (L + 2, o2) :: (L + 3, o3) :: (L + 4, o4) :: gl3) := S3.N
  clear F N
  k_steps
  all_goals (try k_data)
  apply unhold
  with_reducible rename Fr _ _ _ _ => F4
  with_reducible rename News _ _ _ _ => N4
  have S4 := S3.walk (cs' := (tape, o) :: four L o1 o2 o3 o4) F4 N4 rfl
  have hard4 := five_hard S4 hu0 e1 e2 e3 e4
  refine law_type_ok (by exact X.keeps F4.keep) (by exact T.keeps F4.keep) (by walk_at "my room") (by exact (P2.stays st3).stays S4.hm) (by omega) fun h5 tk5 x5 dx5 il5 lo5 hi5 hk5 hdx5 TH5 I5 => ?_
  obtain ⟨hm6, gl6, S6, st6, in6⟩ := S4.again hk5
  have A6 : ArrT hm6 x5 95 whole os := ⟨_, _, _, _, TH5.hide in6 (hard4.stays hk5).soft (fresh_out hard4.soft hdx5), I5.hide in6 (hard4.stays hk5) hard4⟩
  have F6 := S6.F
  have N6 : News base L h5 ((tape, o) :: (L + 1, o1) :: (L + 2, o2) :: (L + 3, o3) :: (L + 4, o4) :: gl6) := S6.N
  clear F4 N4
  k_steps
  all_goals (try k_data)
  with_reducible rename Fr _ _ _ _ => F7
  with_reducible rename News _ _ _ _ => N7
  have S7 := S6.walk (cs' := (tape, o) :: four L o1 o2 o3 o4) F7 (news_sub N7 fun p hp => .tail _ hp) rfl
  exact next _ _ _ _ _ x x5 S7 (stays_trans st3 st6) (by simp +decide only [↓reduceIte]) (by simp +decide only [↓reduceIte]) (fun y h1 h2 => by simp only [if_neg h1, if_neg h2]) (A3.stays st6) A6
end
/-- what is asked, as a value -/
def AskV (hm : Heap) (va : Value) : Option (List (Int × Int)) → Prop
  | none => va = .none
  | some as => as.length ≤ 2 ∧ ∃ l, va = .ref l ∧ PairsAt hm l as
theorem AskV.stays {hm hm' : Heap} {va : Value} : ∀ {asked : Option (List (Int × Int))}, AskV hm va asked → hm.StaysIn hm' → AskV hm' va asked
  | none, x, _ => x
  | some _, ⟨a, l, b, c⟩, k => ⟨a, l, b, c.stays k⟩
section
variable {prog : Program} {w : World} {A : Around} {E : Value → Shared → Prop} {s : Shared} {env : Env}
/-- an item of a list as it stands -/
theorem sub_listC {value slice : PySem.Expr} {l : Addr} {vs : Array Value} {k : Int} {t : Tok} {v : Value} {Q : Value → Shared → Prop} (hl : s.heap.IsList l vs) (hv : vs[k.toNat]? = some v) (h0 : 0 ≤ k) (hi : k < 1000) (h : Q v s)
    (hs : subscripted slice false (.ref l) (.int k t) = operate [.ref l, .int k t] (getItem (.ref l) (.int k t)) := by with_unfolding_all rfl) :
    wpAny (model prog w) A (subscriptTail value slice (.ref l) (.int k t)) Q E s :=
  tail_any hl.typeIs PySem.slot_list_getitem.lookup (wpAny_getItem_list hl h0 (by omega) (by simpa using hv) h) hs
end
section
theorem lines_G8_1 : True := by
  k_with "subscriptTail" => (k_here; (with_reducible show wpAny _ _ (subscriptTail (PySem.Expr.List _ _) _ (Value.ref _) (Value.int _ _)) _ _ _); refine hold ?_)
  trivial
variable {w : World} {dp un : Nat} {fr : Option (List Env)} {gd : Option (List Code)} {E : Value → Shared → Prop} {s : Shared} {Q : Flow → Shared → Prop} {mean : ExcName → Option Value} {mg mb : Str → Option Value} {base hm : Heap} {outer : List Env} {L fa : Addr} {cd : Value} {m : Str → Option Value} {o o1 o2 o3 o4 : Obj} {gl : List (Addr × Obj)}
theorem law_8 {deep part tape row le cl : Addr} {rs : Array Value} {r : Int} {b : Bool} {es : List (Int × Int)} {dims : Nat} {td : Tok} (X : (hd.heap_39 w.params).In base) (T : Top hd.view_39 (looseW hd.view_39 []) mean mg mb base) (hdep : dp + 60 < recursionLimit) (hu : un + 400 < cLine) (S : St base hm L s.heap m ((tape, o) :: four L o1 o2 o3 o4) gl) (TF : TapeF w hm L tape row o r rs) (hr : r ≤ 20) (e1 : o1.data = .cell (some (.ref deep))) (e2 : o2.data = .cell (some (.ref part))) (e3 : o3.data = .cell (some (.bool b))) (e4 : o4.data = .cell (some (.ref cl)))
    (m1 : m (Str.ofString "tape") = some (.ref tape)) (m2 : m (Str.ofString "dims") = some (.int (dims : Nat) td)) (hd2 : dims ≤ 2) (m5 : m (Str.ofString "edges") = some (.ref le)) (P1 : PairsAt hm le es) (hes : es.length ≤ 2)
    (next : ∀ hm' h' tk m' o gl va asked, St base hm' L h' m' ((tape, o) :: four L o1 o2 o3 o4) gl → (∃ kvs, o.IsDictOf (PySem.strKind PySem.Challenge.rw_xw0007_01.prog w) kvs) → hm.StaysIn hm' → m' (Str.ofString "asked") = some va → (∀ y, y ≠ Str.ofString "asked" → m' y = m y) → AskV hm' va asked →
      wpAny (model PySem.Challenge.rw_xw0007_01.prog w) ((Ar dp un fr gd).deeper (lawEnv L fa cd)) (execs (lawRest 16) (lawEnv L fa cd)) Q E { s with heap := h', toks := tk }) :
    wpAny (model PySem.Challenge.rw_xw0007_01.prog w) ((Ar dp un fr gd).deeper (lawEnv L fa cd)) (execs (lawRest 15) (lawEnv L fa cd)) Q E s := by
  show wpAny _ _ (execs (_ :: lawRest 16) _) _ _ _
  generalize lawRest 16 = R at next ⊢
  have F := S.F
  have N : News base L s.heap ((tape, o) :: (L + 1, o1) :: (L + 2, o2) :: (L + 3, o3) :: (L + 4, o4) :: gl) := S.N
  have htp := TF.above
  have hr0 := TF.r0
  obtain ⟨u0, hu0⟩ := TF.dict
  k_steps
  all_goals (try k_data)
  apply unhold
  refine edges_ok (hw := hm) (by exact X.keeps S.bs) (by exact T.keeps S.bs) (by exact S.hm) (by walk_at "my room") (by exact S.out _ (.tail _ (.head _))) (by exact (N _ (.head _)).1) hu0 (by exact TF.row.at fun o e => S.hm _ _ e) TF.size TF.allI (by omega) (by omega) hd2 fun h2 tk2 o2' u2 l2 as r2 hk2 et2 hd2' lo2 hi2 P2 ne2 len2 W2 => ?_
  have S2 := S.slot hk2 et2 (four_tape htp)
  obtain ⟨hm3, gl3, S3, st3, in3⟩ := S2.again (stays_refl _)
  have hard2 := five_hard S2 hd2' e1 e2 e3 e4
  have Q2 := P2.hide in3 hard2
  have TF3 := TF.next st3 hd2' lo2
  have F3 := S3.F
  have N3 : News base L h2 ((tape, o2') :: (L + 1, o1) :: (L + 2, o2) :: (L + 3, o3) :: (L + 4, o4) :: gl3) := S3.N
  clear F N
  k_steps
  all_goals (try k_data)
  apply unhold
  with_reducible rename Fr _ _ _ _ => F4
  with_reducible rename News _ _ _ _ => N4
  have S4 := S3.walk (cs' := (tape, o2') :: four L o1 o2 o3 o4) F4 (news_sub N4 fun p hp => .tail _ hp) rfl
  obtain ⟨lx, hlx, N4⟩ := news_named N4
  subst hlx
  have el := (N4 _ (.head _)).1
  have hlt : lx ≠ tape := fun q => by
    have et := (N4 _ (.tail _ (.head _))).1
    dsimp only at et el
    rw [q, et] at el
    injection el with el
    obtain ⟨_, _, _, hdd, _⟩ := hd2'
    rw [el] at hdd
    cases hdd
  refine slot_ok (hw := hm3) (X.keeps S4.bs) (T.keeps S4.bs) (by exact S4.hm) (by walk_at "my room") (S4.out _ (.tail _ (.head _))) (N4 _ (.tail _ (.head _))).1 hd2' (TF3.row.at fun o e => S4.hm _ _ e) TF.size TF.allI (by omega) (by omega) (by decide) (by decide) fun h5 tk5 o5 v5 t5 u5 hk5 et5 hd5 lo5 hi5 => ?_
  have S5 := S4.slot hk5 et5 (four_tape htp)
  have el5 := hk5 _ _ hlt el
  have F5 := S5.F
  have N5 : News base L h5 ((tape, o5) :: (L + 1, o1) :: (L + 2, o2) :: (L + 3, o3) :: (L + 4, o4) :: gl3) := S5.N
  clear F4
  clear N4
  clear N4
  k_steps
  all_goals (try k_data)
  apply unhold
  have hIs : h5.IsList _ _ := ⟨_, el5, rfl, _, rfl⟩
  have hv3 : v5 = 0 ∨ v5 = 1 ∨ v5 = 2 := by omega
  rcases hv3 with rfl | rfl | rfl
  · refine sub_listC hIs (v := .ref le) rfl (by decide) (by decide) ?_
    k_steps
    all_goals (try k_data)
    with_reducible rename Fr _ _ _ _ => F6
    with_reducible rename News _ _ _ _ => N6
    have S6 := S5.walk (cs' := (tape, o5) :: four L o1 o2 o3 o4) F6 N6 rfl
    exact next _ _ _ _ _ _ _ (some es) S6 ⟨_, hd5⟩ st3 (by simp +decide only [↓reduceIte]) (fun y h1 => by simp only [if_neg h1]) ⟨hes, le, rfl, P1.stays st3⟩
  · refine sub_listC hIs (v := .ref l2) rfl (by decide) (by decide) ?_
    k_steps
    all_goals (try k_data)
    with_reducible rename Fr _ _ _ _ => F6
    with_reducible rename News _ _ _ _ => N6
    have S6 := S5.walk (cs' := (tape, o5) :: four L o1 o2 o3 o4) F6 N6 rfl
    exact next _ _ _ _ _ _ _ (some as) S6 ⟨_, hd5⟩ st3 (by simp +decide only [↓reduceIte]) (fun y h1 => by simp only [if_neg h1]) ⟨by omega, l2, rfl, Q2⟩
  · refine sub_listC hIs (v := .none) rfl (by decide) (by decide) ?_
    k_steps
    all_goals (try k_data)
    with_reducible rename Fr _ _ _ _ => F6
    with_reducible rename News _ _ _ _ => N6
    have S6 := S5.walk (cs' := (tape, o5) :: four L o1 o2 o3 o4) F6 N6 rfl
    exact next _ _ _ _ _ _ _ none S6 ⟨_, hd5⟩ st3 (by simp +decide only [↓reduceIte]) (fun y h1 => by simp only [if_neg h1]) rfl
end
theorem lines_G8_2 : True := by
  k_with_none
  k_with "eval ListComp" => (refine hold ?_)
  k_with "exec For" => (refine hold ?_)
  k_with "exec For Name Attribute cons nil" => (refine hold ?_)
  k_with "exec For Name Name cons nil" => (refine hold ?_)
  k_with "exec For Name Call cons nil" => (refine hold ?_)
  k_with "exec For Tuple Name cons nil" => (refine hold ?_)
  k_with "getAttr ref" => (k_here; k_dflt (refine' get_has (by k_asm) (by k_asm) (by with_reducible assumption) (by k_is) (by k_is) (by k_is) (by k_is) (by exact rfl) ?_; k_whole))
  k_with "my comp" => (
  (case hh => rfl); (case hclos => exact closureFor_none (by decide)); (case hcell => decide); (case hkind => rfl); (case hnames => decide); (case hx => rfl); (case hs => intro x; rfl))
  k_with "my room" => first | omega | (dsimp only [Around.deeper, Around.in1]; omega)
  k_with "call ref" => (refine hold ?_)
  k_with "subscriptTail" => (k_here; (with_reducible show wpAny _ _ (subscriptTail _ _ (Value.ref _) (Value.str _ _)) _ _ _); k_dflt (refine' sub_dict (by k_asm) (by with_reducible assumption) (by with_reducible assumption) ?_; k_whole))
  k_with "subscriptTail" => (k_here; (with_reducible show wpAny _ _ (subscriptTail _ _ (Value.ref _) (Value.str _ _)) _ _ _); k_dflt (refine' sub_dictN (by k_asm) (by first | k_mem | (simp; done)) (by with_reducible assumption) (by with_reducible assumption) ?_; k_whole))
  k_with "exec Raise some none" => (k_here; (with_reducible show wpAny _ _ (exec (Stmt.Raise (some _) none _) _) _ _ _); refine raise_obj rfl ?_)
  k_with "my pairs" => (
  (case hh => rfl); (case hclos => exact closureFor_none (by decide)); (case hcell => decide); (case hkind => rfl); (case hnames => decide); (case hx => rfl); (case hx2 => rfl); (case hxx => decide); (case hs => intro x; rfl))
  k_with "subscriptTail" => (k_here; (with_reducible show wpAny _ _ (subscriptTail _ _ (Value.ref _) (Value.int _ _)) _ _ _); k_dflt (refine' sub_list (by k_asm) (by with_reducible assumption) (by with_reducible assumption) (by omega) ?_; k_whole))
  k_with "call type:range" => (refine hold ?_)
  k_with "my look" => first | with_reducible assumption | (simp +decide only [↓reduceIte]; with_reducible assumption)
  k_with "eval Name" => (k_here; (fail_if_success (with_reducible show wpAny _ _ (eval _ (compEnvC _ _ _ _)) _ _ _)); k_dflt (refine' ld (by k_asm) (by walk_at "my look") ?_; k_whole))
  k_with "exec" => (k_here; (with_reducible show wpAny _ _ (exec (Stmt.While _ _ [] _) _) _ _ _); refine while_out ?_)
  k_with "isTrue UnaryOp" => (k_here; (refine isTrue_not ?_); k_dflt (refine isTrue_plain ?_; refine Call_ ?_))
  k_with "exec Try" => (k_here; refine wpAny_Try_except ?_)
  trivial
theorem SubAt.made {h h' hm : Heap} {H : List Addr} {a dx ty : Addr} {con : Value} (T : Two h h' 250 (Str.ofString "type") (Str.ofString "constraint") (.ref ty) con a dx) (hin : ∀ b o, h'.get? b = some o → b ∉ H → hm.get? b = some o) (k : Hard h H) : SubAt hm a ty con :=
  ⟨dx, T.2.2.1.hide hin (k.stays T.1).soft (fresh_out k.soft T.2.1), T.2.2.2.hide hin (k.stays T.1).soft (fresh_out k.soft T.2.1)⟩
section
variable {w : World} {dp un : Nat} {fr : Option (List Env)} {gd : Option (List Code)} {E : Value → Shared → Prop} {s : Shared} {Q : Flow → Shared → Prop} {mean : ExcName → Option Value} {mg mb : Str → Option Value} {base hm : Heap} {outer : List Env} {L fa : Addr} {cd : Value} {m : Str → Option Value} {o o1 o2 o3 o4 : Obj} {gl : List (Addr × Obj)}
theorem law_9 {deep part tape t cl : Addr} {b : Bool} {kvs : List (Str × Value)} {va : Value} {asked : Option (List (Int × Int))} (X : (hd.heap_39 w.params).In base) (T : Top hd.view_39 (looseW hd.view_39 []) mean mg mb base) (hdep : dp + 60 < recursionLimit) (hu : un + 400 < cLine) (S : St base hm L s.heap m ((tape, o) :: four L o1 o2 o3 o4) gl) (hu0 : o.IsDictOf (PySem.strKind PySem.Challenge.rw_xw0007_01.prog w) kvs) (e1 : o1.data = .cell (some (.ref deep))) (e2 : o2.data = .cell (some (.ref part))) (e3 : o3.data = .cell (some (.bool b))) (e4 : o4.data = .cell (some (.ref cl)))
    (m1 : m (Str.ofString "t") = some (.ref t)) (m2 : m (Str.ofString "asked") = some va) (V : AskV hm va asked)
    (next : ∀ hm' h' tk m' gl free bound con, St base hm' L h' m' ((tape, o) :: four L o1 o2 o3 o4) gl → hm.StaysIn hm' → m' (Str.ofString "free") = some (.ref free) → m' (Str.ofString "bound") = some (.ref bound) → (∀ y, y ≠ Str.ofString "free" → y ≠ Str.ofString "bound" → m' y = m y) → SubAt hm' free t .none → SubAt hm' bound t con → ConAt hm' asked con →
      wpAny (model PySem.Challenge.rw_xw0007_01.prog w) ((Ar dp un fr gd).deeper (lawEnv L fa cd)) (execs (lawRest 17) (lawEnv L fa cd)) Q E { s with heap := h', toks := tk }) :
    wpAny (model PySem.Challenge.rw_xw0007_01.prog w) ((Ar dp un fr gd).deeper (lawEnv L fa cd)) (execs (lawRest 16) (lawEnv L fa cd)) Q E s := by
  show wpAny _ _ (execs (_ :: lawRest 17) _) _ _ _
  generalize lawRest 17 = R at next ⊢
  have F := S.F
  have N : News base L s.heap ((tape, o) :: (L + 1, o1) :: (L + 2, o2) :: (L + 3, o3) :: (L + 4, o4) :: gl) := S.N
  have hard := five_hard S hu0 e1 e2 e3 e4
  k_steps
  all_goals (try k_data)
  apply unhold
  refine new_subtype (by exact X.keeps F.keep) (by exact T.keeps F.keep) (by walk_at "my room") fun h2 tk2 a2 dx2 Tw2 => ?_
  obtain ⟨hm3, gl3, S3, st3, in3⟩ := S.again Tw2.1
  have A3 := SubAt.made Tw2 in3 hard
  have F3 := S3.F
  have N3 : News base L h2 ((tape, o) :: (L + 1, o1) :: (L + 2, o2) :: (L + 3, o3) :: (L + 4, o4) :: gl3) := S3.N
  clear F N
  cases asked with
  | none =>
    obtain rfl : va = .none := V
    k_steps
    all_goals (try k_data)
    apply unhold
    with_reducible rename Fr _ _ _ _ => F4
    with_reducible rename News _ _ _ _ => N4
    have S4 := S3.walk (cs' := (tape, o) :: four L o1 o2 o3 o4) F4 N4 rfl
    have hard4 := five_hard S4 hu0 e1 e2 e3 e4
    refine new_subtype (by exact X.keeps F4.keep) (by exact T.keeps F4.keep) (by walk_at "my room") fun h5 tk5 a5 dx5 Tw5 => ?_
    obtain ⟨hm6, gl6, S6, st6, in6⟩ := S4.again Tw5.1
    have A6 := SubAt.made Tw5 in6 hard4
    have F6 := S6.F
    have N6 : News base L h5 ((tape, o) :: (L + 1, o1) :: (L + 2, o2) :: (L + 3, o3) :: (L + 4, o4) :: gl6) := S6.N
    clear F4 N4
    k_steps
    all_goals (try k_data)
    with_reducible rename Fr _ _ _ _ => F7
    with_reducible rename News _ _ _ _ => N7
    have S7 := S6.walk (cs' := (tape, o) :: four L o1 o2 o3 o4) F7 (news_sub N7 fun p hp => .tail _ hp) rfl
    exact next _ _ _ _ _ a2 a5 _ S7 (stays_trans st3 st6) (by simp +decide only [↓reduceIte]) (by simp +decide only [↓reduceIte]) (fun y h1 h2 => by simp only [if_neg h1, if_neg h2]) (A3.stays st6) A6 rfl
  | some as =>
    obtain ⟨has, l, rfl, PL⟩ := V
    k_steps
    all_goals (try k_data)
    apply unhold
    with_reducible rename Fr _ _ _ _ => F4
    with_reducible rename News _ _ _ _ => N4
    have S4 := S3.walk (cs' := (tape, o) :: four L o1 o2 o3 o4) F4 (news_sub N4 fun p hp => .tail _ hp) rfl
    have hard4 := five_hard S4 hu0 e1 e2 e3 e4
    have et4 := (N4 _ (.head _)).1
    refine new_subtype (by exact X.keeps F4.keep) (by exact T.keeps F4.keep) (by walk_at "my room") fun h5 tk5 a5 dx5 Tw5 => ?_
    obtain ⟨hm6, gl6, S6, st6, in6⟩ := S4.again Tw5.1
    have A6 := SubAt.made Tw5 in6 hard4
    have C6 : ConAt hm6 (some as) _ := ⟨by omega, _, l, _, _, rfl, soft_hide in6 (hard4.stays Tw5.1).soft (Tw5.1 _ _ et4) soft_tup, PL.stays (stays_trans st3 st6)⟩
    have F6 := S6.F
    have N6 : News base L h5 ((tape, o) :: (L + 1, o1) :: (L + 2, o2) :: (L + 3, o3) :: (L + 4, o4) :: gl6) := S6.N
    clear F4 N4
    k_steps
    all_goals (try k_data)
    with_reducible rename Fr _ _ _ _ => F7
    with_reducible rename News _ _ _ _ => N7
    have S7 := S6.walk (cs' := (tape, o) :: four L o1 o2 o3 o4) F7 (news_sub N7 fun p hp => .tail _ hp) rfl
    exact next _ _ _ _ _ a2 a5 _ S7 (stays_trans st3 st6) (by simp +decide only [↓reduceIte]) (by simp +decide only [↓reduceIte]) (fun y h1 h2 => by simp only [if_neg h1, if_neg h2]) (A3.stays st6) A6 C6
end
section
variable {w : World} {dp un : Nat} {fr : Option (List Env)} {gd : Option (List Code)} {E : Value → Shared → Prop} {s : Shared} {Q : Flow → Shared → Prop} {mean : ExcName → Option Value} {mg mb : Str → Option Value} {base hm : Heap} {L fa : Addr} {cd : Value} {m : Str → Option Value} {cs gl : List (Addr × Obj)}
theorem law_10 {whole t free v le ls : Addr} {es bs : List (Int × Int)} {items : List D} {Z : Addr → Prop} {S0 : List Addr} (X : (hd.heap_39 w.params).In base) (T : Top hd.view_39 (looseW hd.view_39 []) mean mg mb base) (B : Below (Ar dp un fr gd) base [] base) (hdep : dp + 60 < recursionLimit) (hu : un + 400 < cLine) (S : St base hm L s.heap m cs gl)
    (m1 : m (Str.ofString "free") = some (.ref free)) (m2 : m (Str.ofString "value") = some (.ref v)) (m3 : m (Str.ofString "edges") = some (.ref le)) (m4 : m (Str.ofString "spans") = some (.ref ls))
    (Hf : SubAt hm free t .none) (A : ArrT hm t 94 whole bs) (V : Lies PySem.Challenge.rw_xw0007_01.prog w hm Z 4 S0 (.ref v) (.arr es items)) (P1 : PairsAt hm le es) (P2 : PairsAt hm ls bs) (hlen : bs.length = es.length) (hes : es.length ≤ 2) (hZ : ∀ x, Z x → ∃ o, hm.get? x = some o)
    (next : ∀ h' tk, St base hm L h' m cs gl →
      wpAny (model PySem.Challenge.rw_xw0007_01.prog w) ((Ar dp un fr gd).deeper (lawEnv L fa cd)) (execs (lawRest 18) (lawEnv L fa cd)) Q E { s with heap := h', toks := tk }) :
    wpAny (model PySem.Challenge.rw_xw0007_01.prog w) ((Ar dp un fr gd).deeper (lawEnv L fa cd)) (execs (lawRest 17) (lawEnv L fa cd)) Q E s := by
  show wpAny _ _ (execs (_ :: lawRest 18) _) _ _ _
  generalize lawRest 18 = R at next ⊢
  have F := S.F
  have N : News base L s.heap (cs ++ gl) := S.N
  generalize hG : cs ++ gl = G at N
  obtain ⟨tdx, il, lo, hi, K, I⟩ := A
  k_steps
  all_goals (try k_data)
  apply unhold
  have hb := push_below (env := lawEnv L fa cd) B F rfl (show ScopeKind.function ≠ ScopeKind.module from by decide)
  have hmS := S.hm
  refine law_fitted_ok (n := 3) (Z := Z) (asked := none) X T (by exact hb) (by walk_at "my room") (by walk_at "my room") (fun x q => let ⟨o, e⟩ := hZ x q; ⟨o, hmS _ _ e⟩) (by exact Hf.stays hmS) rfl (by exact K.stays hmS) (by exact I.stays hmS) hlen (by exact V.stays hmS) (fun r hr h2 tk2 v2 S2 hk2 l2 hx2 nd2 => ?_) (fun hne h2 tk2 t2 up => ?_)
  · have T2 := S.call hk2
    have F2 := T2.F
    have N2 : News base L h2 G := hG ▸ T2.N
    obtain ⟨a2, _, _, _, _, _, ea2, _⟩ := id l2
    subst ea2
    clear F N
    k_steps
    all_goals (try k_data)
    apply unhold
    with_reducible rename Fr _ _ _ _ => F3
    with_reducible rename News _ _ _ _ => N3
    have T3 := T2.walk (cs' := cs) F3 (hG ▸ N3) rfl
    refine law_due_none_ok (by exact X.keeps F3.keep) (by exact T.keeps F3.keep) (by walk_at "my room") (by exact P1.stays T3.hm) (by omega) (by exact P2.stays T3.hm) hlen fun h4 tk4 vd hk4 dv => ?_
    have T4 := T3.call hk4
    have F4 := T4.F
    have N4 : News base L h4 G := hG ▸ T4.N
    rcases dv with ⟨r', hr', rfl, PL, _⟩ | ⟨hne, rfl⟩
    · obtain rfl := hr.unique hr'
      clear F3 N3
      k_steps
      all_goals (try k_data)
      apply unhold
      with_reducible rename Fr _ _ _ _ => F5
      with_reducible rename News _ _ _ _ => N5
      have T5 := T4.walk (cs' := cs) F5 (hG ▸ N5) rfl
      have V1 := V.stays hmS
      have hbn : ∀ x ∈ S2, base.get? x = none := fun x hx => stays_none S.F.keep (hx2 x hx)
      refine is_copy_yes (n := 3) (Z := Z) (hw := base) X T (by exact T5.F.keep) hbn (by walk_at "my room") (by walk_at "my room") (by decide) (by exact V.stays T5.hm) (by exact l2.stays hk4) nd2 (fun x hx => ⟨fun hm => ?_, fun hz => ?_⟩) (fun x q => let ⟨o, e⟩ := hZ x q; ⟨o, T5.hm _ _ e⟩) (by exact PL) (fun hm => ?_) fun h6 tk6 hk6 => ?_
      · obtain ⟨o, e⟩ := V1.live x hm
        exact fresh_ne e (hx2 x hx) rfl
      · obtain ⟨o, e⟩ := hZ x hz
        exact fresh_ne (hmS _ _ e) (hx2 x hx) rfl
      · obtain ⟨_, ⟨_, e⟩, _⟩ := P1
        exact fresh_ne (hmS _ _ e) (hx2 le hm) rfl
      · have T6 := T5.keepX (S := S2) (fun b o e hb => hk6 b o e (.inl hb)) hbn (fun hm => by
          obtain ⟨o, _, _, ho, _⟩ := S.F.ns
          exact fresh_ne ho (hx2 L hm) rfl) (fun p hp hm => fresh_ne (S.N p hp).1 (hx2 p.1 hm) rfl)
        have F6 := T6.F
        have N6 : News base L h6 G := hG ▸ T6.N
        clear F5 N5
        k_steps
        all_goals (try k_data)
        with_reducible rename Fr _ _ _ _ => F7
        with_reducible rename News _ _ _ _ => N7
        exact next _ _ (T6.walk (cs' := cs) F7 (hG ▸ N7) rfl)
    · exact absurd hr (hne r)
  · have T2 := S.up up
    have F2 := T2.F
    have N2 : News base L h2 G := hG ▸ T2.N
    clear F N
    k_steps
    all_goals (try k_data)
    apply unhold
    with_reducible rename Fr _ _ _ _ => F3
    with_reducible rename News _ _ _ _ => N3
    have T3 := T2.walk (cs' := cs) F3 (hG ▸ N3) rfl
    refine law_due_none_ok (by exact X.keeps F3.keep) (by exact T.keeps F3.keep) (by walk_at "my room") (by exact P1.stays T3.hm) (by omega) (by exact P2.stays T3.hm) hlen fun h4 tk4 vd hk4 dv => ?_
    have T4 := T3.call hk4
    have F4 := T4.F
    have N4 : News base L h4 G := hG ▸ T4.N
    rcases dv with ⟨r', hr', rfl, PL, _⟩ | ⟨_, rfl⟩
    · exact absurd hr' (hne r')
    · clear F3 N3
      k_steps
      all_goals (try k_data)
      apply unhold
      with_reducible rename Fr _ _ _ _ => F5
      with_reducible rename News _ _ _ _ => N5
      have T5 := T4.walk (cs' := cs) F5 (hG ▸ N5) rfl
      refine is_copy_no (by exact X.keeps F5.keep) (by exact T.keeps F5.keep) (by walk_at "my room") fun h6 tk6 hk6 => ?_
      have T6 := T5.call hk6
      have F6 := T6.F
      have N6 : News base L h6 G := hG ▸ T6.N
      clear F5 N5
      k_steps
      all_goals (try k_data)
      with_reducible rename Fr _ _ _ _ => F7
      with_reducible rename News _ _ _ _ => N7
      exact next _ _ (T6.walk (cs' := cs) F7 (hG ▸ N7) rfl)
end
section
variable {w : World} {dp un : Nat} {fr : Option (List Env)} {gd : Option (List Code)} {E : Value → Shared → Prop} {s : Shared} {Q : Value → Shared → Prop} {mean : ExcName → Option Value} {mg mb : Str → Option Value}
theorem law_due_ok {asked : Option (List (Int × Int))} {va : Value} (X : (hd.heap_39 w.params).In s.heap) (T : Top hd.view_39 (looseW hd.view_39 []) mean mg mb s.heap) (hdep : dp + 4 < recursionLimit) (hu : un + 80 < cLine) {b r : Addr} {bs rs : List (Int × Int)} (AV : AskV s.heap va asked)
    (H3 : PairsAt s.heap b bs) (hb : bs.length ≤ 100) (H4 : PairsAt s.heap r rs) (hlen : rs.length = bs.length)
    (hQ : ∀ h' tk v la, s.heap.StaysIn h' → DueV h' bs rs asked la v → (la = b ∨ va = .ref la) → Q v { s with heap := h', toks := tk }) :
    wpAny (model PySem.Challenge.rw_xw0007_01.prog w) (Ar dp un fr gd) (call (.ref 671) [.ref b, .ref r, va]) Q E s := by
  cases asked with
  | none =>
    obtain rfl : va = .none := AV
    exact law_due_none_ok X T hdep H3 hb H4 hlen fun h' tk v k d => hQ h' tk v b k d (.inl rfl)
  | some as =>
    obtain ⟨ha, l, rfl, P⟩ := AV
    exact law_due_some_ok X T hdep hu H3 hb P (by omega) fun h' tk v k d => hQ h' tk v l k d (.inr rfl)
end
section
variable {w : World} {dp un : Nat} {fr : Option (List Env)} {gd : Option (List Code)} {E : Value → Shared → Prop} {s : Shared} {Q : Flow → Shared → Prop} {mean : ExcName → Option Value} {mg mb : Str → Option Value} {base hm : Heap} {L fa : Addr} {cd : Value} {m : Str → Option Value} {cs gl : List (Addr × Obj)}
theorem law_11 {whole t bound v le ls : Addr} {va con : Value} {asked : Option (List (Int × Int))} {es bs : List (Int × Int)} {items : List D} {Z : Addr → Prop} {S0 : List Addr} (X : (hd.heap_39 w.params).In base) (T : Top hd.view_39 (looseW hd.view_39 []) mean mg mb base) (B : Below (Ar dp un fr gd) base [] base) (hdep : dp + 60 < recursionLimit) (hu : un + 400 < cLine) (S : St base hm L s.heap m cs gl)
    (m1 : m (Str.ofString "bound") = some (.ref bound)) (m5 : m (Str.ofString "asked") = some va) (m2 : m (Str.ofString "value") = some (.ref v)) (m3 : m (Str.ofString "edges") = some (.ref le)) (m4 : m (Str.ofString "spans") = some (.ref ls))
    (Hf : SubAt hm bound t con) (C : ConAt hm asked con) (AV : AskV hm va asked) (A : ArrT hm t 94 whole bs) (V : Lies PySem.Challenge.rw_xw0007_01.prog w hm Z 4 S0 (.ref v) (.arr es items)) (P1 : PairsAt hm le es) (P2 : PairsAt hm ls bs) (hlen : bs.length = es.length) (hes : es.length ≤ 2) (hZ : ∀ x, Z x → ∃ o, hm.get? x = some o)
    (next : ∀ h' tk, St base hm L h' m cs gl →
      wpAny (model PySem.Challenge.rw_xw0007_01.prog w) ((Ar dp un fr gd).deeper (lawEnv L fa cd)) (execs (lawRest 19) (lawEnv L fa cd)) Q E { s with heap := h', toks := tk }) :
    wpAny (model PySem.Challenge.rw_xw0007_01.prog w) ((Ar dp un fr gd).deeper (lawEnv L fa cd)) (execs (lawRest 18) (lawEnv L fa cd)) Q E s := by
  show wpAny _ _ (execs (_ :: lawRest 19) _) _ _ _
  generalize lawRest 19 = R at next ⊢
  have F := S.F
  have N : News base L s.heap (cs ++ gl) := S.N
  generalize hG : cs ++ gl = G at N
  obtain ⟨tdx, il, lo, hi, K, I⟩ := A
  k_steps
  all_goals (try k_data)
  apply unhold
  have hb := push_below (env := lawEnv L fa cd) B F rfl (show ScopeKind.function ≠ ScopeKind.module from by decide)
  have hmS := S.hm
  refine law_fitted_ok (n := 3) (Z := Z) (asked := asked) X T (by exact hb) (by walk_at "my room") (by walk_at "my room") (fun x q => let ⟨o, e⟩ := hZ x q; ⟨o, hmS _ _ e⟩) (by exact Hf.stays hmS) (by exact C.stays hmS) (by exact K.stays hmS) (by exact I.stays hmS) hlen (by exact V.stays hmS) (fun r hr h2 tk2 v2 S2 hk2 l2 hx2 nd2 => ?_) (fun hne h2 tk2 t2 up => ?_)
  · have T2 := S.call hk2
    have F2 := T2.F
    have N2 : News base L h2 G := hG ▸ T2.N
    obtain ⟨a2, _, _, _, _, _, ea2, _⟩ := id l2
    subst ea2
    clear F N
    k_steps
    all_goals (try k_data)
    apply unhold
    with_reducible rename Fr _ _ _ _ => F3
    with_reducible rename News _ _ _ _ => N3
    have T3 := T2.walk (cs' := cs) F3 (hG ▸ N3) rfl
    refine law_due_ok (by exact X.keeps F3.keep) (by exact T.keeps F3.keep) (by walk_at "my room") (by walk_at "my room") (by exact AV.stays T3.hm) (by exact P1.stays T3.hm) (by omega) (by exact P2.stays T3.hm) hlen fun h4 tk4 vd la hk4 dv hla => ?_
    have T4 := T3.call hk4
    have F4 := T4.F
    have N4 : News base L h4 G := hG ▸ T4.N
    rcases dv with ⟨r', hr', rfl, PL, _⟩ | ⟨hne, rfl⟩
    · obtain rfl := hr.unique hr'
      clear F3 N3
      k_steps
      all_goals (try k_data)
      apply unhold
      with_reducible rename Fr _ _ _ _ => F5
      with_reducible rename News _ _ _ _ => N5
      have T5 := T4.walk (cs' := cs) F5 (hG ▸ N5) rfl
      have V1 := V.stays hmS
      have hbn : ∀ x ∈ S2, base.get? x = none := fun x hx => stays_none S.F.keep (hx2 x hx)
      refine is_copy_yes (n := 3) (Z := Z) (hw := base) X T (by exact T5.F.keep) hbn (by walk_at "my room") (by walk_at "my room") (by decide) (by exact V.stays T5.hm) (by exact l2.stays hk4) nd2 (fun x hx => ⟨fun hm => ?_, fun hz => ?_⟩) (fun x q => let ⟨o, e⟩ := hZ x q; ⟨o, T5.hm _ _ e⟩) (by exact PL) (fun hm => ?_) fun h6 tk6 hk6 => ?_
      · obtain ⟨o, e⟩ := V1.live x hm
        exact fresh_ne e (hx2 x hx) rfl
      · obtain ⟨o, e⟩ := hZ x hz
        exact fresh_ne (hmS _ _ e) (hx2 x hx) rfl
      · rcases hla with rfl | rfl
        · obtain ⟨_, ⟨_, e⟩, _⟩ := P1
          exact fresh_ne (hmS _ _ e) (hx2 _ hm) rfl
        · cases asked with
          | none => cases AV
          | some as =>
            obtain ⟨_, l, el, ⟨_, ⟨_, e⟩, _⟩⟩ := AV
            cases el
            exact fresh_ne (hmS _ _ e) (hx2 _ hm) rfl
      · have T6 := T5.keepX (S := S2) (fun b o e hb => hk6 b o e (.inl hb)) hbn (fun hm => by
          obtain ⟨o, _, _, ho, _⟩ := S.F.ns
          exact fresh_ne ho (hx2 L hm) rfl) (fun p hp hm => fresh_ne (S.N p hp).1 (hx2 p.1 hm) rfl)
        have F6 := T6.F
        have N6 : News base L h6 G := hG ▸ T6.N
        clear F5 N5
        k_steps
        all_goals (try k_data)
        with_reducible rename Fr _ _ _ _ => F7
        with_reducible rename News _ _ _ _ => N7
        exact next _ _ (T6.walk (cs' := cs) F7 (hG ▸ N7) rfl)
    · exact absurd hr (hne r)
  · have T2 := S.up up
    have F2 := T2.F
    have N2 : News base L h2 G := hG ▸ T2.N
    clear F N
    k_steps
    all_goals (try k_data)
    apply unhold
    with_reducible rename Fr _ _ _ _ => F3
    with_reducible rename News _ _ _ _ => N3
    have T3 := T2.walk (cs' := cs) F3 (hG ▸ N3) rfl
    refine law_due_ok (by exact X.keeps F3.keep) (by exact T.keeps F3.keep) (by walk_at "my room") (by walk_at "my room") (by exact AV.stays T3.hm) (by exact P1.stays T3.hm) (by omega) (by exact P2.stays T3.hm) hlen fun h4 tk4 vd la hk4 dv hla => ?_
    have T4 := T3.call hk4
    have F4 := T4.F
    have N4 : News base L h4 G := hG ▸ T4.N
    rcases dv with ⟨r', hr', rfl, PL, _⟩ | ⟨_, rfl⟩
    · exact absurd hr' (hne r')
    · clear F3 N3
      k_steps
      all_goals (try k_data)
      apply unhold
      with_reducible rename Fr _ _ _ _ => F5
      with_reducible rename News _ _ _ _ => N5
      have T5 := T4.walk (cs' := cs) F5 (hG ▸ N5) rfl
      refine is_copy_no (by exact X.keeps F5.keep) (by exact T.keeps F5.keep) (by walk_at "my room") fun h6 tk6 hk6 => ?_
      have T6 := T5.call hk6
      have F6 := T6.F
      have N6 : News base L h6 G := hG ▸ T6.N
      clear F5 N5
      k_steps
      all_goals (try k_data)
      with_reducible rename Fr _ _ _ _ => F7
      with_reducible rename News _ _ _ _ => N7
      exact next _ _ (T6.walk (cs' := cs) F7 (hG ▸ N7) rfl)
end
section
variable {w : World} {dp un : Nat} {fr : Option (List Env)} {gd : Option (List Code)} {E : Value → Shared → Prop} {s : Shared} {Q : Flow → Shared → Prop} {mean : ExcName → Option Value} {mg mb : Str → Option Value} {base hm : Heap} {L fa : Addr} {cd : Value} {m : Str → Option Value} {cs gl : List (Addr × Obj)}
theorem law_12 {whole wdx deep ddx part pdx t other v le ls : Addr} {ts : List (Int × Int)} {es bs : List (Int × Int)} {items : List D} {Z : Addr → Prop} {S0 : List Addr} (X : (hd.heap_39 w.params).In base) (T : Top hd.view_39 (looseW hd.view_39 []) mean mg mb base) (B : Below (Ar dp un fr gd) base [] base) (hdep : dp + 60 < recursionLimit) (hu : un + 400 < cLine) (S : St base hm L s.heap m cs gl)
    (m1 : m (Str.ofString "other") = some (.ref other)) (m5 : m (Str.ofString "t") = some (.ref t)) (m2 : m (Str.ofString "value") = some (.ref v)) (m3 : m (Str.ofString "edges") = some (.ref le)) (m4 : m (Str.ofString "others") = some (.ref ls))
    (A : ArrT hm other 95 whole bs) (A2 : ArrT hm t 94 whole ts) (Y : Ty1 hm L whole wdx deep ddx part pdx) (hw : ∀ c ∈ es, inWord c) (V : Lies PySem.Challenge.rw_xw0007_01.prog w hm Z 4 S0 (.ref v) (.arr es items)) (P1 : PairsAt hm le es) (P2 : PairsAt hm ls bs) (hlen : bs.length = es.length) (hes : es.length ≤ 2) (hZ : ∀ x, Z x → ∃ o, hm.get? x = some o)
    (next : ∀ h' tk, St base hm L h' m cs gl →
      wpAny (model PySem.Challenge.rw_xw0007_01.prog w) ((Ar dp un fr gd).deeper (lawEnv L fa cd)) (execs (lawRest 20) (lawEnv L fa cd)) Q E { s with heap := h', toks := tk }) :
    wpAny (model PySem.Challenge.rw_xw0007_01.prog w) ((Ar dp un fr gd).deeper (lawEnv L fa cd)) (execs (lawRest 19) (lawEnv L fa cd)) Q E s := by
  show wpAny _ _ (execs (_ :: lawRest 20) _) _ _ _
  generalize lawRest 20 = R at next ⊢
  have F := S.F
  have N : News base L s.heap (cs ++ gl) := S.N
  generalize hG : cs ++ gl = G at N
  obtain ⟨tdx, il, lo, hi, K, I⟩ := A
  obtain ⟨tdx2, il2, lo2, hi2, K2, _⟩ := A2
  obtain ⟨iv, t1, t2, W⟩ := Y.whole
  k_steps
  all_goals (try k_data)
  apply unhold
  refine new_subtype (by exact X.keeps F.keep) (by exact T.keeps F.keep) (by walk_at "my room") fun h0 tk0 a0 dx0 Tw => ?_
  have hs0 := Tw.1
  have Hf : SubAt h0 a0 other .none := ⟨dx0, Tw.2.2.1, Tw.2.2.2⟩
  replace S := S.call Tw.1
  clear F N
  have F := S.F
  have N : News base L h0 G := hG ▸ S.N
  k_steps
  all_goals (try k_data)
  apply unhold
  with_reducible rename Fr _ _ _ _ => F
  with_reducible rename News _ _ _ _ => N
  have hb := push_below (env := lawEnv L fa cd) B F rfl (show ScopeKind.function ≠ ScopeKind.module from by decide)
  have hmS := S.hm
  refine law_turned_ok (n := 3) (Z := Z) X T (by exact hb) (by walk_at "my room") (by walk_at "my room") (fun x q => let ⟨o, e⟩ := hZ x q; ⟨o, hmS _ _ e⟩) (by exact Hf) (by exact K.stays hmS) (by exact I.stays hmS) hlen (by exact K2.stays hmS) (by exact W.stays hmS) hw (by exact V.stays hmS) (fun r hr h2 tk2 v2 S2 hk2 l2 hx2 nd2 => ?_) (fun hne h2 tk2 t2 up => ?_)
  · have T2 := S.call hk2
    have F2 := T2.F
    have N2 : News base L h2 G := hG ▸ T2.N
    obtain ⟨a2, _, _, _, _, _, ea2, _⟩ := id l2
    subst ea2
    clear F N
    k_steps
    all_goals (try k_data)
    apply unhold
    with_reducible rename Fr _ _ _ _ => F3
    with_reducible rename News _ _ _ _ => N3
    have T3 := T2.walk (cs' := cs) F3 (hG ▸ N3) rfl
    refine law_due_none_ok (by exact X.keeps F3.keep) (by exact T.keeps F3.keep) (by walk_at "my room") (by exact P1.stays T3.hm) (by omega) (by exact P2.stays T3.hm) hlen fun h4 tk4 vd hk4 dv => ?_
    have T4 := T3.call hk4
    have F4 := T4.F
    have N4 : News base L h4 G := hG ▸ T4.N
    rcases dv with ⟨r', hr', rfl, PL, _⟩ | ⟨hne, rfl⟩
    · obtain rfl := hr.unique hr'
      clear F3 N3
      k_steps
      all_goals (try k_data)
      apply unhold
      with_reducible rename Fr _ _ _ _ => F5
      with_reducible rename News _ _ _ _ => N5
      have T5 := T4.walk (cs' := cs) F5 (hG ▸ N5) rfl
      have V1 := V.stays hmS
      have hbn : ∀ x ∈ S2, base.get? x = none := fun x hx => stays_none S.F.keep (hx2 x hx)
      refine is_copy_yes (n := 3) (Z := Z) (hw := base) X T (by exact T5.F.keep) hbn (by walk_at "my room") (by walk_at "my room") (by decide) (by exact V.stays T5.hm) (by exact l2.stays hk4) nd2 (fun x hx => ⟨fun hm => ?_, fun hz => ?_⟩) (fun x q => let ⟨o, e⟩ := hZ x q; ⟨o, T5.hm _ _ e⟩) (by exact PL) (fun hm => ?_) fun h6 tk6 hk6 => ?_
      · obtain ⟨o, e⟩ := V1.live x hm
        exact fresh_ne e (hx2 x hx) rfl
      · obtain ⟨o, e⟩ := hZ x hz
        exact fresh_ne (hmS _ _ e) (hx2 x hx) rfl
      · obtain ⟨_, ⟨_, e⟩, _⟩ := P1
        exact fresh_ne (hmS _ _ e) (hx2 le hm) rfl
      · have T6 := T5.keepX (S := S2) (fun b o e hb => hk6 b o e (.inl hb)) hbn (fun hm => by
          obtain ⟨o, _, _, ho, _⟩ := S.F.ns
          exact fresh_ne ho (hx2 L hm) rfl) (fun p hp hm => fresh_ne (S.N p hp).1 (hx2 p.1 hm) rfl)
        have F6 := T6.F
        have N6 : News base L h6 G := hG ▸ T6.N
        clear F5 N5
        k_steps
        all_goals (try k_data)
        with_reducible rename Fr _ _ _ _ => F7
        with_reducible rename News _ _ _ _ => N7
        exact next _ _ (T6.walk (cs' := cs) F7 (hG ▸ N7) rfl)
    · exact absurd hr (hne r)
  · have T2 := S.up up
    have F2 := T2.F
    have N2 : News base L h2 G := hG ▸ T2.N
    clear F N
    k_steps
    all_goals (try k_data)
    apply unhold
    with_reducible rename Fr _ _ _ _ => F3
    with_reducible rename News _ _ _ _ => N3
    have T3 := T2.walk (cs' := cs) F3 (hG ▸ N3) rfl
    refine law_due_none_ok (by exact X.keeps F3.keep) (by exact T.keeps F3.keep) (by walk_at "my room") (by exact P1.stays T3.hm) (by omega) (by exact P2.stays T3.hm) hlen fun h4 tk4 vd hk4 dv => ?_
    have T4 := T3.call hk4
    have F4 := T4.F
    have N4 : News base L h4 G := hG ▸ T4.N
    rcases dv with ⟨r', hr', rfl, PL, _⟩ | ⟨_, rfl⟩
    · exact absurd hr' (hne r')
    · clear F3 N3
      k_steps
      all_goals (try k_data)
      apply unhold
      with_reducible rename Fr _ _ _ _ => F5
      with_reducible rename News _ _ _ _ => N5
      have T5 := T4.walk (cs' := cs) F5 (hG ▸ N5) rfl
      refine is_copy_no (by exact X.keeps F5.keep) (by exact T.keeps F5.keep) (by walk_at "my room") fun h6 tk6 hk6 => ?_
      have T6 := T5.call hk6
      have F6 := T6.F
      have N6 : News base L h6 G := hG ▸ T6.N
      clear F5 N5
      k_steps
      all_goals (try k_data)
      with_reducible rename Fr _ _ _ _ => F7
      with_reducible rename News _ _ _ _ => N7
      exact next _ _ (T6.walk (cs' := cs) F7 (hG ▸ N7) rfl)
end
section
variable {w : World} {dp un : Nat} {fr : Option (List Env)} {gd : Option (List Code)} {E : Value → Shared → Prop} {s : Shared} {Q : Flow → Shared → Prop} {mean : ExcName → Option Value} {mg mb : Str → Option Value} {base hm : Heap} {L fa : Addr} {cd : Value} {m : Str → Option Value} {cs gl : List (Addr × Obj)}
theorem seen_shaped {n : Nat} {d : D} {p : PyData} (h : SeenR n d p) (hn : n ≤ 9) : PySem.SeqAt.shaped p = true := by
  have hlay := SeenR.lay h
  unfold PySem.SeqAt.shaped
  rw [hlay.1, Bool.true_and, decide_eq_true_eq]
  have := hlay.2
  omega
theorem law_13 {whole t free v : Addr} {es bs : List (Int × Int)} {items : List D} {Z : Addr → Prop} {S0 : List Addr} (X : (hd.heap_39 w.params).In base) (T : Top hd.view_39 (looseW hd.view_39 []) mean mg mb base) (hdep : dp + 60 < recursionLimit) (hu : un + 400 < cLine) (S : St base hm L s.heap m cs gl)
    (m1 : m (Str.ofString "free") = some (.ref free)) (m2 : m (Str.ofString "value") = some (.ref v))
    (Hf : SubAt hm free t .none) (A : ArrT hm t 94 whole bs) (V : Lies PySem.Challenge.rw_xw0007_01.prog w hm Z 4 S0 (.ref v) (.arr es items))
    (next : ∀ h' tk, St base hm L h' m cs gl →
      wpAny (model PySem.Challenge.rw_xw0007_01.prog w) ((Ar dp un fr gd).deeper (lawEnv L fa cd)) (execs (lawRest 21) (lawEnv L fa cd)) Q E { s with heap := h', toks := tk }) :
    wpAny (model PySem.Challenge.rw_xw0007_01.prog w) ((Ar dp un fr gd).deeper (lawEnv L fa cd)) (execs (lawRest 20) (lawEnv L fa cd)) Q E s := by
  show wpAny _ _ (execs (_ :: lawRest 21) _) _ _ _
  generalize lawRest 21 = R at next ⊢
  have F := S.F
  have N : News base L s.heap (cs ++ gl) := S.N
  generalize hG : cs ++ gl = G at N
  obtain ⟨tdx, il, lo, hi, K, I⟩ := A
  k_steps
  all_goals (try k_data)
  apply unhold
  have hmS := S.hm
  refine qual_ok (by exact X.keeps F.keep) (by exact T.keeps F.keep) (by walk_at "my room") (by exact Hf.stays hmS) (by exact K.stays hmS) fun h2 tk2 hk2 => ?_
  have T2 := S.call hk2
  have F2 := T2.F
  have N2 : News base L h2 G := hG ▸ T2.N
  clear F N
  k_steps
  all_goals (try k_data)
  apply unhold
  with_reducible rename Fr _ _ _ _ => F3
  with_reducible rename News _ _ _ _ => N3
  refine seen_ok 4 (by exact X.keeps F3.keep) (by exact T.keeps F3.keep) (by walk_at "my room") (by walk_at "my room") (by exact V.stays T2.hm) fun h4 tk4 v4 p4 as4 hk4 R4 hf4 SR4 => ?_
  have T4 := T2.call hk4
  have F4 := T4.F
  have N4 : News base L h4 G := hG ▸ T4.N
  obtain ⟨ps, LR, rfl⟩ := id SR4
  cases R4 with
  | tuple o2 c2 d2 r2 =>
    rename_i a2 oo2 vs2 n2
    have R4 : Reads h4 (.ref a2) (.tuple [.str (Str.ofString "array"), .list (es.map pairD), .list ps]) as4 := .tuple o2 c2 d2 r2
    clear F3 N3
    k_steps
    all_goals (try k_data)
    apply unhold
    with_reducible rename Fr _ _ _ _ => F5
    with_reducible rename News _ _ _ _ => N5
    refine seen_ok 4 (by exact X.keeps F5.keep) (by exact T.keeps F5.keep) (by walk_at "my room") (by walk_at "my room") (by exact V.stays T4.hm) fun h6 tk6 v6 p6 as6 hk6 R6 hf6 SR6 => ?_
    have hp := SeenR.unique SR6 SR4
    subst hp
    have T6 := T4.call hk6
    have F6 := T6.F
    have N6 : News base L h6 G := hG ▸ T6.N
    have hsh := seen_shaped SR6 (by decide)
    clear F5 N5
    k_steps
    all_goals (try k_data)
    refine ne_dataH (reads_stays R4 hk6) R6 hsh hsh (by walk_at "my room") ?_
    rw [PySem.SeqAt.eqv_refl _ (SeenR.lay SR6).1]
    simp only [Bool.not_true]
    k_steps
    all_goals (try k_data)
    with_reducible rename Fr _ _ _ _ => F7
    with_reducible rename News _ _ _ _ => N7
    exact next _ _ (T6.walk (cs' := cs) F7 (hG ▸ N7) rfl)
end
section
theorem lines_G14_1 : True := by
  k_with "eval Name" => (k_here; (with_reducible show wpAny _ _ (eval (PySem.Expr.Name (PySem.Str.ofString "is_record") _) _) _ _ _); k_dflt (refine' nameX_C (by k_asm) (by rfl) (by k_mem) (by with_reducible assumption) ?_; k_whole))
  trivial
variable {w : World} {dp un : Nat} {fr : Option (List Env)} {gd : Option (List Code)} {E : Value → Shared → Prop} {s : Shared} {Q : Flow → Shared → Prop} {mean : ExcName → Option Value} {mg mb : Str → Option Value} {base hm : Heap} {L fa tape : Addr} {cd : Value} {m : Str → Option Value} {o o1 o2 o3 o4 : Obj} {gl : List (Addr × Obj)}
theorem law_14 {b : Bool} {n : Nat} {t : Tok} (X : (hd.heap_39 w.params).In base) (T : Top hd.view_39 (looseW hd.view_39 []) mean mg mb base) (hdep : dp + 60 < recursionLimit) (hu : un + 400 < cLine) (S : St base hm L s.heap m ((tape, o) :: four L o1 o2 o3 o4) gl) (e3 : o3.data = .cell (some (.bool b))) (m6 : m (Str.ofString "count") = some (.int (n : Nat) t))
    (hQ : ∀ h' tk m', Fr base L h' m' → Q (.ret (.bool true)) { s with heap := h', toks := tk })
    (next : ∀ h' tk, b = true → 0 < n → St base hm L h' m ((tape, o) :: four L o1 o2 o3 o4) gl →
      wpAny (model PySem.Challenge.rw_xw0007_01.prog w) ((Ar dp un fr gd).deeper (lawEnv L fa cd)) (execs (lawRest 22) (lawEnv L fa cd)) Q E { s with heap := h', toks := tk }) :
    wpAny (model PySem.Challenge.rw_xw0007_01.prog w) ((Ar dp un fr gd).deeper (lawEnv L fa cd)) (execs (lawRest 21) (lawEnv L fa cd)) Q E s := by
  show wpAny _ _ (execs (_ :: lawRest 22) _) _ _ _
  generalize lawRest 22 = R at next ⊢
  have F := S.F
  have N : News base L s.heap ((tape, o) :: (L + 1, o1) :: (L + 2, o2) :: (L + 3, o3) :: (L + 4, o4) :: gl) := S.N
  cases b with
  | false =>
    k_steps
    all_goals (try k_data)
    dsimp only
    exact hQ _ _ _ S.F
  | true =>
    k_steps
    all_goals (try k_data)
    · dsimp only
      exact hQ _ _ _ S.F
    · dsimp only
      exact next _ _ rfl (by omega) (S.walk (cs' := (tape, o) :: four L o1 o2 o3 o4) F N rfl)
end
theorem lines_G14_2 : True := by
  k_with_none
  k_with "eval ListComp" => (refine hold ?_)
  k_with "exec For" => (refine hold ?_)
  k_with "exec For Name Attribute cons nil" => (refine hold ?_)
  k_with "exec For Name Name cons nil" => (refine hold ?_)
  k_with "exec For Name Call cons nil" => (refine hold ?_)
  k_with "exec For Tuple Name cons nil" => (refine hold ?_)
  k_with "getAttr ref" => (k_here; k_dflt (refine' get_has (by k_asm) (by k_asm) (by with_reducible assumption) (by k_is) (by k_is) (by k_is) (by k_is) (by exact rfl) ?_; k_whole))
  k_with "my comp" => (
  (case hh => rfl); (case hclos => exact closureFor_none (by decide)); (case hcell => decide); (case hkind => rfl); (case hnames => decide); (case hx => rfl); (case hs => intro x; rfl))
  k_with "my room" => first | omega | (dsimp only [Around.deeper, Around.in1]; omega)
  k_with "call ref" => (refine hold ?_)
  k_with "subscriptTail" => (k_here; (with_reducible show wpAny _ _ (subscriptTail _ _ (Value.ref _) (Value.str _ _)) _ _ _); k_dflt (refine' sub_dict (by k_asm) (by with_reducible assumption) (by with_reducible assumption) ?_; k_whole))
  k_with "subscriptTail" => (k_here; (with_reducible show wpAny _ _ (subscriptTail _ _ (Value.ref _) (Value.str _ _)) _ _ _); k_dflt (refine' sub_dictN (by k_asm) (by first | k_mem | (simp; done)) (by with_reducible assumption) (by with_reducible assumption) ?_; k_whole))
  k_with "exec Raise some none" => (k_here; (with_reducible show wpAny _ _ (exec (Stmt.Raise (some _) none _) _) _ _ _); refine raise_obj rfl ?_)
  k_with "my pairs" => (
  (case hh => rfl); (case hclos => exact closureFor_none (by decide)); (case hcell => decide); (case hkind => rfl); (case hnames => decide); (case hx => rfl); (case hx2 => rfl); (case hxx => decide); (case hs => intro x; rfl))
  k_with "subscriptTail" => (k_here; (with_reducible show wpAny _ _ (subscriptTail _ _ (Value.ref _) (Value.int _ _)) _ _ _); k_dflt (refine' sub_list (by k_asm) (by with_reducible assumption) (by with_reducible assumption) (by omega) ?_; k_whole))
  k_with "call type:range" => (refine hold ?_)
  k_with "my look" => first | with_reducible assumption | (simp +decide only [↓reduceIte]; with_reducible assumption)
  k_with "eval Name" => (k_here; (fail_if_success (with_reducible show wpAny _ _ (eval _ (compEnvC _ _ _ _)) _ _ _)); k_dflt (refine' ld (by k_asm) (by walk_at "my look") ?_; k_whole))
  k_with "exec" => (k_here; (with_reducible show wpAny _ _ (exec (Stmt.While _ _ [] _) _) _ _ _); refine while_out ?_)
  k_with "isTrue UnaryOp" => (k_here; (refine isTrue_not ?_); k_dflt (refine isTrue_plain ?_; refine Call_ ?_))
  k_with "exec Try" => (k_here; refine wpAny_Try_except ?_)
  trivial
section
variable {prog : Program} {w : World} {A : Around} {E : Value → Shared → Prop} {s : Shared}
/-- an item of a dict as it stands -/
theorem sub_dictC {value slice : PySem.Expr} {d : Addr} {kvs : List (Str × Value)} {k : Str} {t : Tok} {v : Value} {Q : Value → Shared → Prop} (hd : s.heap.DictOf (PySem.strKind prog w) d kvs) (hv : valueAt kvs k = some v) (h : Q v { s with toks := s.toks + 1 })
    (hs : subscripted slice false (.ref d) (.str k t) = operate [.ref d, .str k t] (getItem (.ref d) (.str k t)) := by with_unfolding_all rfl) :
    wpAny (model prog w) A (subscriptTail value slice (.ref d) (.str k t)) Q E s :=
  tail_any hd.typeIs PySem.slot_dict_getitem.lookup (wpAny_getItem_of (by simp [PySem.strKind, Value.isStrOf]) hd.mapOf hv h) hs
end
theorem reads_hide {h hm : Heap} {H : List Addr} {v : Value} {p : PyData} {as : List Addr} (x : Reads h v p as) (hin : ∀ b o, h.get? b = some o → b ∉ H → hm.get? b = some o) (k : Hard h H) (ha : ∀ x ∈ as, x ∉ H) : Reads hm v p as :=
  reads_move x fun b o e hb => hin b o e fun hx => by
    rcases hb with hb | hb
    · exact ha b hb hx
    · obtain ⟨o', e', hn⟩ := k.soft b hx
      rw [e] at e'; cases e'
      exact hn hb
theorem seen_rec_tuple {n : Nat} {num : Int} {fs : List (Str × D)} {p : PyData} (h : SeenR (n + 1) (.recd num fs) p) : ∃ l, p = .tuple l := by
  obtain ⟨ss, ps, _, _, _, _, _, rfl⟩ := h
  exact ⟨_, rfl⟩
theorem reads_ref {h : Heap} {v : Value} {l : List PyData} {as : List Addr} (x : Reads h v (.tuple l) as) : ∃ a, v = .ref a := by
  cases x
  exact ⟨_, rfl⟩
section
theorem lines_G15_1 : True := by
  k_with "eval Name" => (k_here; (with_reducible show wpAny _ _ (eval (PySem.Expr.Name (PySem.Str.ofString "part") _) _) _ _ _); k_dflt (refine' nameX_C (by k_asm) (by rfl) (by k_mem) (by with_reducible assumption) ?_; k_whole))
  trivial
theorem lines_G15_2 : True := by
  k_with "subscriptTail" => (k_here; (with_reducible show wpAny _ _ (subscriptTail (PySem.Expr.Attribute _ _ _) _ (Value.ref _) _) _ _ _); refine hold ?_)
  trivial
variable {w : World} {dp un : Nat} {fr : Option (List Env)} {gd : Option (List Code)} {E : Value → Shared → Prop} {s : Shared} {Q : Flow → Shared → Prop} {mean : ExcName → Option Value} {mg mb : Str → Option Value} {base hm : Heap} {L fa tape : Addr} {cd : Value} {m : Str → Option Value} {o o1 o2 o3 o4 : Obj} {gl : List (Addr × Obj)}
theorem law_15 {whole wdx deep ddx part pdx cl v dc1 dc2 : Addr} {b : Bool} {n : Nat} {es : List (Int × Int)} {S0 : List Addr} {kvs0 : List (Str × Value)} (X : (hd.heap_39 w.params).In base) (T : Top hd.view_39 (looseW hd.view_39 []) mean mg mb base) (hdep : dp + 60 < recursionLimit) (hu : un + 400 < cLine) (S : St base hm L s.heap m ((tape, o) :: four L o1 o2 o3 o4) gl) (hu0 : o.IsDictOf (PySem.strKind PySem.Challenge.rw_xw0007_01.prog w) kvs0)
    (e1 : o1.data = .cell (some (.ref deep))) (e2 : o2.data = .cell (some (.ref part))) (e3 : o3.data = .cell (some (.bool b))) (e4 : o4.data = .cell (some (.ref cl))) (m2 : m (Str.ofString "value") = some (.ref v)) (hn : 0 < n)
    (Y : Ty1 hm L whole wdx deep ddx part pdx) (V : Lies PySem.Challenge.rw_xw0007_01.prog w hm (Zof ddx pdx dc1 dc2) 4 S0 (.ref v) (.arr es (membersD n true))) (nd : S0.Nodup) (hS0 : ∀ x ∈ S0, base.get? x = none) (hSZ : ∀ x ∈ S0, ¬ Zof ddx pdx dc1 dc2 x) (hZ : ∀ x, Zof ddx pdx dc1 dc2 x → ∃ o, hm.get? x = some o)
    (hQ : ∀ h' tk m', Fr base L h' m' → Q (.ret (.bool true)) { s with heap := h', toks := tk }) :
    wpAny (model PySem.Challenge.rw_xw0007_01.prog w) ((Ar dp un fr gd).deeper (lawEnv L fa cd)) (execs (lawRest 22) (lawEnv L fa cd)) Q E s := by
  show wpAny _ _ (execs [_, _, _, _] _) _ _ _
  have F := S.F
  have N : News base L s.heap ((tape, o) :: (L + 1, o1) :: (L + 2, o2) :: (L + 3, o3) :: (L + 4, o4) :: gl) := S.N
  obtain ⟨lo, hi, iv, K⟩ := Y.part
  obtain ⟨va, vdx, vb, vl, vs, VS, ve1, ve2, vi1, vi2, vB, vpl, vr, _⟩ := id V
  cases ve1
  have hvs : vs.size = n := by
    have := vr.length
    rwa [Array.length_toList, membersD_len] at this
  obtain ⟨v0, hv0⟩ : ∃ v0, vs[0]? = some v0 := ⟨_, Array.getElem?_eq_getElem (by omega)⟩
  obtain ⟨S1, d0, hd0, V0⟩ := vr.at (i := 0) (v := v0) (by simpa using hv0)
  rw [membersD_get hn] at hd0
  cases hd0
  k_steps
  all_goals (try k_data)
  apply unhold
  refine new_subtype (by exact X.keeps F.keep) (by exact T.keeps F.keep) (by walk_at "my room") fun h2 tk2 a2 dx2 Tw => ?_
  have Hf : SubAt h2 a2 part .none := ⟨dx2, Tw.2.2.1, Tw.2.2.2⟩
  have T2 := S.call Tw.1
  have F2 := T2.F
  have N2 : News base L h2 ((tape, o) :: (L + 1, o1) :: (L + 2, o2) :: (L + 3, o3) :: (L + 4, o4) :: gl) := T2.N
  clear F N
  k_steps
  all_goals (try k_data)
  refine' get_hasC ?gX (vi2.stays T2.hm) ?gg ?gh ?ga ?gn ?gv ?_
  case gX => exact X.keeps T2.F.keep
  case gg => k_is
  case gh => k_is
  case ga => k_is
  case gn => k_is
  case gv => rfl
  k_steps
  all_goals (try k_data)
  apply unhold
  refine sub_listC (vpl.isList.at fun o e => T2.hm _ _ e) (v := v0) (by exact hv0) (by decide) (by decide) ?_
  k_steps
  all_goals (try k_data)
  apply unhold
  with_reducible rename Fr _ _ _ _ => F3
  with_reducible rename News _ _ _ _ => N3
  have T3 := T2.walk (cs' := (tape, o) :: four L o1 o2 o3 o4) F3 N3 rfl
  have hard3 := five_hard T3 hu0 e1 e2 e3 e4
  have live0 := V.live
  refine fit_rec_ok (n := 2) (num := 93) (Z := Zof ddx pdx dc1 dc2) (by exact X.keeps F3.keep) (by exact T.keeps F3.keep) (by walk_at "my room") (by walk_at "my room") (fun x q => let ⟨o, e⟩ := hZ x q; ⟨o, T3.hm _ _ e⟩) (by exact Hf) (by exact K.stays T3.hm) (by exact V0.stays T3.hm) fun h4 tk4 v4 S4 hk4 l4 hx4 nd4 => ?_
  obtain ⟨k4, kdx, kfd, kty, ktdx, ktk, kkvs, kS, ke1, ke2, ki1, ki2, ki3, _⟩ := id l4
  subst ke1
  have T4 := T3.call hk4
  obtain ⟨hm5, gl5, T5, st5, in5⟩ := T4.again (stays_refl _)
  have hZH : ∀ x, Zof ddx pdx dc1 dc2 x → x ∉ L :: ((tape, o) :: four L o1 o2 o3 o4).map (·.1) := fun x hz hx => by
    obtain ⟨o, z⟩ := hZ x hz
    rw [S.out x hx] at z; cases z
  have K5 := lies_hide l4 in5 (hard3.stays hk4) (fun x hx => fresh_out hard3.soft (hx4 x hx)) hZH
  have F5 := T5.F
  have N5 : News base L h4 ((tape, o) :: (L + 1, o1) :: (L + 2, o2) :: (L + 3, o3) :: (L + 4, o4) :: gl5) := T5.N
  clear F3 N3
  k_steps
  all_goals (try k_data)
  apply unhold
  with_reducible rename Fr _ _ _ _ => F6
  with_reducible rename News _ _ _ _ => N6
  have T6 := T5.walk (cs' := (tape, o) :: four L o1 o2 o3 o4) F6 N6 rfl
  have hard6 := five_hard T6 hu0 e1 e2 e3 e4
  refine seen_ok 3 (by exact X.keeps F6.keep) (by exact T.keeps F6.keep) (by walk_at "my room") (by walk_at "my room") (by exact K5.stays T6.hm) fun h7 tk7 v7 p7 as7 hk7 R7 hf7 SR7 => ?_
  obtain ⟨pl7, hpl7⟩ := seen_rec_tuple SR7
  obtain ⟨a7, ea7⟩ := reads_ref (by rw [hpl7] at R7; exact R7)
  subst ea7
  have T7 := T6.call hk7
  obtain ⟨hm8, gl8, T8, st8, in8⟩ := T7.again (stays_refl _)
  have R8 := reads_hide R7 in8 (hard6.stays hk7) (fun x hx => fresh_out hard6.soft (hf7 x hx))
  have hsh := seen_shaped SR7 (by decide)
  have K8 := K5.stays st8
  have V8 := V.stays (stays_trans st5 st8)
  have F8 := T8.F
  have N8 : News base L h7 ((tape, o) :: (L + 1, o1) :: (L + 2, o2) :: (L + 3, o3) :: (L + 4, o4) :: gl8) := T8.N
  clear F6 N6
  k_steps
  all_goals (try k_data)
  apply unhold
  with_reducible rename Fr _ _ _ _ => F9
  with_reducible rename News _ _ _ _ => N9
  have T9 := T8.walk (cs' := (tape, o) :: four L o1 o2 o3 o4) F9 N9 rfl
  have hLS : L ∉ S0 := fun hm => by
    obtain ⟨o, e⟩ := live0 L hm
    rw [S.out L (.head _)] at e; cases e
  refine spoil_ok 4 (hw := base) X T (by exact F9.keep) hS0 (by walk_at "my room") (by walk_at "my room") (by exact V8.stays T9.hm) nd hSZ (fun x hx => let ⟨o, e⟩ := hZ x hx; ⟨o, T9.hm _ _ (st8 _ _ (st5 _ _ e))⟩) fun h10 tk10 hk10 => ?_
  have K10 := (K8.stays T9.hm).move (h' := h10) (fun _ q => q) fun b o e hb => hk10 b o e (by
    rcases hb with hb | hb | hb
    · exact .inl fun hm => by
        obtain ⟨o', e'⟩ := live0 b hm
        exact fresh_ne (T3.hm _ _ e') (hx4 b hb) rfl
    · exact .inl fun hm => hSZ b hm hb
    · exact .inr hb)
  have R10 := reads_move (h' := h10) (reads_stays R8 T9.hm) fun b o e hb => hk10 b o e (by
    rcases hb with hb | hb
    · exact .inl fun hm => by
        obtain ⟨o', e'⟩ := live0 b hm
        exact fresh_ne (T6.hm _ _ (st5 _ _ e')) (hf7 b hb) rfl
    · exact .inr hb)
  have F10 := fr_keepX F9 (fun b o e hb => hk10 b o e (.inl hb)) hS0 hLS
  have hns10 := F10.ns
  obtain ⟨gl11, N10, back11⟩ := snapAll F10
  clear F9 N9
  k_steps
  all_goals (try k_data)
  apply unhold
  refine seen_ok 3 (by exact X.keeps F10.keep) (by exact T.keeps F10.keep) (by walk_at "my room") (by walk_at "my room") (by exact K10) fun h12 tk12 v12 p12 as12 hk12 R12 hf12 SR12 => ?_
  have hp := SeenR.unique SR12 SR7
  subst hp
  obtain ⟨a12, ea12⟩ := reads_ref (by rw [hpl7] at R12; exact R12)
  subst ea12
  have F12 := Fr.keeps F10 hk12
  have N12 := News.grown N10 hk12
  have K12 := K10.stays hk12
  have X12 : Hold _ := unhold (X.keeps F12.keep)
  have B12 : Hold _ := unhold F12
  clear F10 N10
  k_steps
  all_goals (try k_data)
  refine eq_dataH R12 (reads_stays R10 hk12) hsh hsh (by walk_at "my room") ?_
  rw [PySem.SeqAt.eqv_refl _ (SeenR.lay SR7).1]
  obtain ⟨k', qdx, qfd, qty, qtdx, qtk, kvs, qS, qe1, qe2, qi1, qi2, qi3, qz, qd, qks, qr, _⟩ := id K12
  cases qe1
  k_steps
  all_goals (try k_data)
  have hkl : kvs.length = 4 := by have := congrArg List.length qks; simpa using this
  obtain ⟨⟨kp, vp⟩, hkp⟩ : ∃ x, kvs[2]? = some x := ⟨_, List.getElem?_eq_getElem (by omega)⟩
  have hkn : kp = Str.ofString "p" := by
    have z : (kvs.map (·.1))[2]? = some kp := by rw [List.getElem?_map, hkp]; rfl
    rw [qks] at z
    injection z with z
    exact z.symm
  subst hkn
  have hnd : (kvs.map (·.1)).Nodup := let ⟨_, _, _, _, _, _, _, _, q⟩ := qd; q
  have hva := valueAt_get hnd hkp
  obtain ⟨Sp, dpp, hdp, Lp⟩ := qr.at (i := 2) (v := vp) (by rw [List.getElem?_map, hkp]; rfl)
  have hT : targetD ((0 : Nat) : Int) = .cell 1 := rfl
  have hdp' : some (targetD ((0 : Nat) : Int)) = some dpp := hdp
  rw [hT] at hdp'
  cases hdp'
  obtain ⟨_, c, cdx, ctk, ec, Hc, _⟩ := Lp
  subst ec
  refine' get_hasC ?gX qi2 ?gg ?gh ?ga ?gn ?gv ?_
  case gX => exact hold X12
  case gg => k_is
  case gh => k_is
  case ga => k_is
  case gn => k_is
  case gv => rfl
  k_steps
  all_goals (try k_data)
  apply unhold
  refine sub_dictC qd hva ?_
  k_steps
  all_goals (try k_data)
  refine' get_hasC ?gX qi2 ?gg ?gh ?ga ?gn ?gv ?_
  case gX => exact hold X12
  case gg => k_is
  case gh => k_is
  case ga => k_is
  case gn => k_is
  case gv => rfl
  k_steps
  all_goals (try k_data)
  apply unhold
  refine sub_dictC qd hva ?_
  k_steps
  all_goals (try k_data)
  refine' get_hasC ?gX Hc ?gg ?gh ?ga ?gn ?gv ?_
  case gX => exact hold X12
  case gg => k_is
  case gh => k_is
  case ga => k_is
  case gn => k_is
  case gv => rfl
  k_steps
  all_goals (try k_data)
  exact hQ _ _ _ (hold B12)
end
theorem lines_G15_3 : True := by
  k_with_none
  k_with "eval ListComp" => (refine hold ?_)
  k_with "exec For" => (refine hold ?_)
  k_with "exec For Name Attribute cons nil" => (refine hold ?_)
  k_with "exec For Name Name cons nil" => (refine hold ?_)
  k_with "exec For Name Call cons nil" => (refine hold ?_)
  k_with "exec For Tuple Name cons nil" => (refine hold ?_)
  k_with "getAttr ref" => (k_here; k_dflt (refine' get_has (by k_asm) (by k_asm) (by with_reducible assumption) (by k_is) (by k_is) (by k_is) (by k_is) (by exact rfl) ?_; k_whole))
  k_with "my comp" => (
  (case hh => rfl); (case hclos => exact closureFor_none (by decide)); (case hcell => decide); (case hkind => rfl); (case hnames => decide); (case hx => rfl); (case hs => intro x; rfl))
  k_with "my room" => first | omega | (dsimp only [Around.deeper, Around.in1]; omega)
  k_with "call ref" => (refine hold ?_)
  k_with "subscriptTail" => (k_here; (with_reducible show wpAny _ _ (subscriptTail _ _ (Value.ref _) (Value.str _ _)) _ _ _); k_dflt (refine' sub_dict (by k_asm) (by with_reducible assumption) (by with_reducible assumption) ?_; k_whole))
  k_with "subscriptTail" => (k_here; (with_reducible show wpAny _ _ (subscriptTail _ _ (Value.ref _) (Value.str _ _)) _ _ _); k_dflt (refine' sub_dictN (by k_asm) (by first | k_mem | (simp; done)) (by with_reducible assumption) (by with_reducible assumption) ?_; k_whole))
  k_with "exec Raise some none" => (k_here; (with_reducible show wpAny _ _ (exec (Stmt.Raise (some _) none _) _) _ _ _); refine raise_obj rfl ?_)
  k_with "my pairs" => (
  (case hh => rfl); (case hclos => exact closureFor_none (by decide)); (case hcell => decide); (case hkind => rfl); (case hnames => decide); (case hx => rfl); (case hx2 => rfl); (case hxx => decide); (case hs => intro x; rfl))
  k_with "subscriptTail" => (k_here; (with_reducible show wpAny _ _ (subscriptTail _ _ (Value.ref _) (Value.int _ _)) _ _ _); k_dflt (refine' sub_list (by k_asm) (by with_reducible assumption) (by with_reducible assumption) (by omega) ?_; k_whole))
  k_with "call type:range" => (refine hold ?_)
  k_with "my look" => first | with_reducible assumption | (simp +decide only [↓reduceIte]; with_reducible assumption)
  k_with "eval Name" => (k_here; (fail_if_success (with_reducible show wpAny _ _ (eval _ (compEnvC _ _ _ _)) _ _ _)); k_dflt (refine' ld (by k_asm) (by walk_at "my look") ?_; k_whole))
  k_with "exec" => (k_here; (with_reducible show wpAny _ _ (exec (Stmt.While _ _ [] _) _) _ _ _); refine while_out ?_)
  k_with "isTrue UnaryOp" => (k_here; (refine isTrue_not ?_); k_dflt (refine isTrue_plain ?_; refine Call_ ?_))
  k_with "exec Try" => (k_here; refine wpAny_Try_except ?_)
  trivial
section
variable {w : World} {dp un : Nat} {fr : Option (List Env)} {gd : Option (List Code)} {E : Value → Shared → Prop} {s : Shared} {Q : Flow → Shared → Prop} {mean : ExcName → Option Value} {mg mb : Str → Option Value} {base hm : Heap} {L fa : Addr} {cd : Value} {m : Str → Option Value} {o1 o2 o3 o4 : Obj}
theorem within_word {es : List (Int × Int)} (h : Within (-5) 6 es) : ∀ c ∈ es, inWord c := fun c hc => by
  have := h c hc
  unfold inWord; omega
theorem law_ok {sc : Addr} {vs : List Value} {ns : List Int} (X : (hd.heap_39 w.params).In base) (T : Top hd.view_39 (looseW hd.view_39 []) mean mg mb base) (B : Below (Ar dp un fr gd) base [] base) (hdep : dp + 60 < recursionLimit) (hu : un + 400 < cLine) (F : Fr base L s.heap m) (N : News base L s.heap (four L o1 o2 o3 o4)) (d1 : o1.data = .cell none) (d2 : o2.data = .cell none) (d3 : o3.data = .cell none) (d4 : o4.data = .cell none) (m1 : m (Str.ofString "script") = some (.ref sc))
    (hsc : base.IsList sc vs.toArray) (hI : IntsAre vs ns) (hlen : ns.length ≤ 63)
    (hQ : ∀ h' tk m', Fr base L h' m' → Q (.ret (.bool true)) { s with heap := h', toks := tk }) :
    wpAny (model PySem.Challenge.rw_xw0007_01.prog w) ((Ar dp un fr gd).deeper (lawEnv L fa cd)) (execs lawBody (lawEnv L fa cd)) Q E s := by
  show wpAny _ _ (execs (lawRest 0) _) _ _ _
  refine law_1 X T hdep hu F N d1 d2 d3 d4 m1 fun hm1 h1 tk1 mm1 o1 o2 gl1 whole wdx deep ddx part pdx S1 e1 e2 a1 a2 Y1 => ?_
  refine law_2 X T hdep hu (by exact S1) e1 e2 d3 d4 a1 a2 Y1 hsc hI hlen fun hm2 h2 tk2 mm2 ot2 o3 gl2 tape row rs b comp dI t2 S2 TF2 e3 hdI1 hdI2 b1 b2 b3 b4 Y2 => ?_
  obtain ⟨dims, rfl⟩ : ∃ d : Nat, dI = (d : Int) := ⟨dI.toNat, by omega⟩
  refine law_3 X T hdep hu (by exact S2) TF2 e1 e2 e3 d4 (by omega) (by omega) b1 b2 b3 b4 Y2 fun hm3 h3 tk3 mm3 ot3 gl3 r3 ls lo le bs os es S3 TF3 hr3 c1 c2 c3 c4 c5 c6 c7 P1 P2 P3 l1 l2 l3 W Sh Y3 => ?_
  refine law_4 X T hdep hu (by exact S3) c7 P3 (by omega) Sh fun h4 tk4 mm4 t4 S4 f1 f2 => ?_
  have hc := countOf_le Sh (by omega)
  obtain ⟨n, hn⟩ : ∃ n : Nat, countOf es = (n : Int) := ⟨(countOf es).toNat, by omega⟩
  rw [hn] at f1
  have f3 : ∀ y v, y ≠ Str.ofString "count" → y ≠ Str.ofString "pair" → mm3 y = some v → mm4 y = some v := fun y v h1 h2 e => (f2 y h1 h2).trans e
  refine law_5 X T hdep hu (by exact S4) TF3 e1 e2 e3 d4 fun hm5 h5 tk5 o4 gl5 cl k1 k2 dc1 dc2 t51 t52 S5 e4 st5 CL C1 C2 => ?_
  have TF5 : TapeF w hm5 L tape row ot3 r3 rs := ⟨TF3.dict, TF3.row.at fun o e => st5 _ _ e, TF3.size, TF3.allI, TF3.r0, TF3.above⟩
  have Y5 := Y3.stays st5
  refine law_6 X T hdep hu (by exact S5) TF5 e1 e2 e3 e4 (f3 _ _ (by decide) (by decide) c7) f1 (by omega) (P3.stays st5) (by omega) Y5 CL C1 C2 fun hm6 h6 tk6 mm6 gl6 v S0 S6 st6 g1 g2 V6 nd6 fr6 => ?_
  have g3 : ∀ y v, y ≠ Str.ofString "value" → mm4 y = some v → mm6 y = some v := fun y v h1 e => (g2 y h1).trans e
  have TF6 : TapeF w hm6 L tape row ot3 r3 rs := ⟨TF5.dict, TF5.row.at fun o e => st6 _ _ e, TF5.size, TF5.allI, TF5.r0, TF5.above⟩
  have q6 := stays_trans st5 st6
  refine law_7 X T hdep hu (by exact S6) TF6 e1 e2 e3 e4 (g3 _ _ (by decide) (f3 _ _ (by decide) (by decide) c3)) (g3 _ _ (by decide) (f3 _ _ (by decide) (by decide) c4)) (g3 _ _ (by decide) (f3 _ _ (by decide) (by decide) c5)) (g3 _ _ (by decide) (f3 _ _ (by decide) (by decide) c6)) (P1.stays q6) (P2.stays q6) (by omega) (by omega) fun hm7 h7 tk7 mm7 gl7 t t2' S7 st7 i1 i2 i3 A7 B7 => ?_
  have i4 : ∀ y v, y ≠ Str.ofString "t" → y ≠ Str.ofString "other" → mm6 y = some v → mm7 y = some v := fun y v h1 h2 e => (i3 y h1 h2).trans e
  have TF7 : TapeF w hm7 L tape row ot3 r3 rs := ⟨TF6.dict, TF6.row.at fun o e => st7 _ _ e, TF6.size, TF6.allI, TF6.r0, TF6.above⟩
  have q7 := stays_trans q6 st7
  have up7 : ∀ y v, y ≠ Str.ofString "count" → y ≠ Str.ofString "pair" → y ≠ Str.ofString "value" → y ≠ Str.ofString "t" → y ≠ Str.ofString "other" → mm3 y = some v → mm7 y = some v := fun y v h1 h2 h3 h4 h5 e => i4 y v h4 h5 (g3 y v h3 (f3 y v h1 h2 e))
  refine law_8 X T hdep hu (by exact S7) TF7 hr3 e1 e2 e3 e4 (up7 _ _ (by decide) (by decide) (by decide) (by decide) (by decide) c1) (up7 _ _ (by decide) (by decide) (by decide) (by decide) (by decide) c2) (by omega) (up7 _ _ (by decide) (by decide) (by decide) (by decide) (by decide) c7) (P3.stays q7) (by omega) fun hm8 h8 tk8 mm8 ot8 gl8 va asked S8 D8 st8 j1 j2 V8 => ?_
  obtain ⟨kvs8, D8⟩ := D8
  have j3 : ∀ y v, y ≠ Str.ofString "asked" → mm7 y = some v → mm8 y = some v := fun y v h1 e => (j2 y h1).trans e
  refine law_9 X T hdep hu (by exact S8) D8 e1 e2 e3 e4 (j3 _ _ (by decide) i1) j1 V8 fun hm9 h9 tk9 mm9 gl9 free bound con S9 st9 n1 n2 n3 Hf Hb C9 => ?_
  have n4 : ∀ y v, y ≠ Str.ofString "free" → y ≠ Str.ofString "bound" → mm8 y = some v → mm9 y = some v := fun y v h1 h2 e => (n3 y h1 h2).trans e
  have st79 := stays_trans st8 st9
  have q9 := stays_trans q7 st79
  have p9 : ∀ y v, y ≠ Str.ofString "asked" → y ≠ Str.ofString "free" → y ≠ Str.ofString "bound" → mm7 y = some v → mm9 y = some v := fun y v h1 h2 h3 e => n4 y v h2 h3 (j3 y v h1 e)
  have V9 := V6.stays (stays_trans st7 st79)
  have A9 := A7.stays st79
  have B9 := B7.stays st79
  have Y9 := Y5.stays (stays_trans st6 (stays_trans st7 st79))
  have eVal := p9 _ _ (by decide) (by decide) (by decide) (i4 _ _ (by decide) (by decide) g1)
  have eEdg := p9 _ _ (by decide) (by decide) (by decide) (up7 _ _ (by decide) (by decide) (by decide) (by decide) (by decide) c7)
  have eSpn := p9 _ _ (by decide) (by decide) (by decide) (up7 _ _ (by decide) (by decide) (by decide) (by decide) (by decide) c5)
  have eOth := p9 _ _ (by decide) (by decide) (by decide) (up7 _ _ (by decide) (by decide) (by decide) (by decide) (by decide) c6)
  have eCnt := p9 _ _ (by decide) (by decide) (by decide) (i4 _ _ (by decide) (by decide) (g3 _ _ (by decide) f1))
  have hZ5 : ∀ x, Zof ddx pdx dc1 dc2 x → ∃ o, hm5.get? x = some o := fun x hx => by
    obtain ⟨_, _, _, D1⟩ := Y5.deep
    obtain ⟨_, _, _, E1⟩ := Y5.part
    obtain ⟨_, D2⟩ := D1.number
    obtain ⟨_, E2⟩ := E1.number
    rcases hx with rfl | rfl | rfl | rfl
    · exact D2.live
    · exact E2.live
    · exact C1.live
    · exact C2.live
  have hZ9 : ∀ x, Zof ddx pdx dc1 dc2 x → ∃ o, hm9.get? x = some o := fun x hx => let ⟨o, e⟩ := hZ5 x hx; ⟨o, stays_trans st6 (stays_trans st7 st79) _ _ e⟩
  have hSZ : ∀ x ∈ S0, ¬ Zof ddx pdx dc1 dc2 x := fun x hx hz => by
    obtain ⟨o, e⟩ := hZ5 x hz
    exact fresh_ne e (fr6 x hx) rfl
  have hS0 : ∀ x ∈ S0, base.get? x = none := fun x hx => stays_none S5.bs (fr6 x hx)
  refine law_10 X T B hdep hu (by exact S9) n1 eVal eEdg eSpn Hf A9 V9 (P3.stays q9) (P1.stays q9) (by omega) (by omega) hZ9 fun h10 tk10 S10 => ?_
  refine law_11 X T B hdep hu (by exact S10) n2 (n4 _ _ (by decide) (by decide) j1) eVal eEdg eSpn Hb C9 (V8.stays st9) A9 V9 (P3.stays q9) (P1.stays q9) (by omega) (by omega) hZ9 fun h11 tk11 S11 => ?_
  refine law_12 X T B hdep hu (by exact S11) (p9 _ _ (by decide) (by decide) (by decide) i2) (p9 _ _ (by decide) (by decide) (by decide) i1) eVal eEdg eOth B9 A9 Y9 (within_word W) V9 (P3.stays q9) (P2.stays q9) (by omega) (by omega) hZ9 fun h12 tk12 S12 => ?_
  refine law_13 X T hdep hu (by exact S12) n1 eVal Hf A9 V9 fun h13 tk13 S13 => ?_
  refine law_14 X T hdep hu (by exact S13) e3 eCnt (fun h' tk m' F' => hQ h' tk m' F') fun h14 tk14 eb hpos S14 => ?_
  subst eb
  exact law_15 X T hdep hu (by exact S14) D8 e1 e2 e3 e4 eVal hpos Y9 V9 nd6 hS0 hSZ hZ9 fun h' tk m' F' => hQ h' tk m' F'
end
theorem flip4 {base h : Heap} {L : Addr} {o1 o2 o3 o4 : Obj} (N : News base L h [(L + 1 + 1 + 1 + 1, o4), (L + 1 + 1 + 1, o3), (L + 1 + 1, o2), (L + 1, o1)]) : News base L h (four L o1 o2 o3 o4) :=
  news_sub N fun p hp => by
    simp only [four, List.mem_cons, List.not_mem_nil, or_false] at hp
    rcases hp with rfl | rfl | rfl | rfl
    · exact .tail _ (.tail _ (.tail _ (.head _)))
    · exact .tail _ (.tail _ (.head _))
    · exact .tail _ (.head _)
    · exact .head _
theorem news_nil_of {base h : Heap} {L : Addr} {m : Str → Option Value} (_ : Fr base L h m) : News base L h [] := News.nil
theorem main_ok : PySem.Challenge.rw_xw0007_01.Holds := by
  w_on
  refine holds_law hd.said fun said => ?_
  refine holds_open (q := hd.view_39) (loose := []) (Xt := fun s => xlAt hd.view_39 [] s && recOk (RowW.records PySem.Challenge.rw_xw0007_01.row.toRowW) s) (XP := XL hd.view_39 []) (Yf := Hook.obs (kHook hd.heap_39 hd.addrs hd.keys_are)) (Ya := Hook.val (kHook hd.heap_39 hd.addrs hd.keys_are)) (YP := Hook.says (kHook hd.heap_39 hd.addrs hd.keys_are)) (N := 9014) hd.left_ok (Hook.of (kHook hd.heap_39 hd.addrs hd.keys_are)) (Hook.keeps (kHook hd.heap_39 hd.addrs hd.keys_are)) (fun s e => xl_of s (Bool.and_eq_true_iff.mp e).1) XL.keeps (by rfl) (by rfl) (by rfl) (fun s e => recFacts_of (Bool.and_eq_true_iff.mp e).2) (by rfl) said (by decide +kernel) ⟨rfl, rfl, rfl, rfl, rfl, by decide +kernel⟩ ?hw ?hc
  case hw => w_witness2
  case hc =>
    k_fill
    intro w s₀ s₁ mg mb G Y fa o pm cd doc dV kV ho hdd hcd hD hmg hg args vals as hpre hlay hrd hwl hlo
    have KX := kIn_of Y
    have X := (Ground.X G).1
    refine Ground.open G ?_
    intro T B D TE TW
    try (refine guard_noD D (by decide +kernel) ?_; clear D)
    obtain ⟨_, _, M⟩ := bmod_of_top T
    have TA := at_of_top T
    try (obtain ⟨_, _, he, B0⟩ := based_of_top T rfl hmg ho hdd; have he' : cd = _ := he; subst he'; clear he)
    clear hmg
    wrow_args hpre hlay hrd hwl hlo
    first | refine callC_kw (enter_call ?_) | refine enter_call ?_ | refine callC_kw (enter_callW ?_) | refine enter_callW ?_
    w_top on
    try refine codeAny_mono ?_ (fun _ _ g => GoodW.toG g)
    have K0 := below_caller (Top.heap T)
    w_call any ho hdd hcd hD T F
    clear hdd TA
    k_drop
    all_goals (try k_fold)
    with_reducible rename News _ _ _ [_, _, _, _] => N0
    with_reducible rename Fr _ _ _ _ => F0
    have N1 := flip4 N0
    refine' law_ok (dp := 301) (un := 4) (fr := some []) (gd := some []) ?gX ?gT ?gB ?gr1 ?gr2 F0 N1 ?gd1 ?gd2 ?gd3 ?gd4 ?gm1 ?gsc ?gI ?glen ?gQ
    case gX => assumption
    case gT => assumption
    case gB => exact below_caller _
    case gr1 => decide
    case gr2 => rw [cLine_is]; decide
    case gd1 => exact Eq.trans (by assumption) rfl
    case gd2 => exact Eq.trans (by assumption) rfl
    case gd3 => exact Eq.trans (by assumption) rfl
    case gd4 => exact Eq.trans (by assumption) rfl
    case gm1 => rfl
    case gsc => assumption
    case gI => assumption
    case glen => omega
    case gQ =>
      intro h' tk m' FE
      clear F0
      have NE := news_nil_of FE
      k_steps
end Mine
theorem PySem.Challenge.cw_xw0007_01_holds : PySem.Challenge.rw_xw0007_01.Holds := by
  exact Mine.main_ok
