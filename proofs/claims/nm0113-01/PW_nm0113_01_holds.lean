import PyProof.Rows.All
import Wide.All
import OpenK.AllK
import Wide.FinOn
import PySem.Challenge.RW_nm0113_01
open PySem PySem.W PyProof.Rows PySem.Calls
set_option Elab.async false
set_option linter.unusedVariables false
set_option maxRecDepth 100000
namespace Mine
set_option maxHeartbeats 4000000
section
noncomputable def tops : List Stmt := PySem.Challenge.rw_nm0113_01.row.prog.main.body
noncomputable def fnAt (i : Nat) : Option Stmt := tops[i]?
noncomputable def mtAt (i j : Nat) : Option Stmt := match tops[i]? with
  | some (.ClassDef (body := b) ..) => b[j]?
  | _ => none
noncomputable def sBody : Option Stmt → List Stmt
  | some (.FunctionDef (body := b) ..) => b
  | _ => []
noncomputable def sScope : Option Stmt → Scope
  | some (.FunctionDef (scope := c) ..) => c
  | _ => default
noncomputable def sArgs : Option Stmt → Arguments
  | some (.FunctionDef (args := a) ..) => a
  | _ => default
noncomputable def sAt (i : Nat) : Stmt := (tops[i]?).getD (.Pass default)
/-- what the run of the top leaves (as the model's run says): each object of the text's own; the defs' bodies are the row's -/
noncomputable def hd.heap_39 : Params → Frag := fun P =>
  (nat_lit 2, { cls := PySem.Value.none, data := PySem.Data.dict #[{ hash := PySem.PyData.keyHash P (PySem.Str.ofString "type.__subclasses__.Exception.0"), key := PySem.Value.str (PySem.Str.ofString "type.__subclasses__.Exception.0") 214, val := PySem.Value.int 31 0 }, { hash := PySem.PyData.keyHash P (PySem.Str.ofString "type.__subclasses__.Exception.n"), key := PySem.Value.str (PySem.Str.ofString "type.__subclasses__.Exception.n") 215, val := PySem.Value.int 1 0 }] 2 }) ::
  (nat_lit 3, { cls := PySem.Value.type "dict", data := PySem.Data.dict #[{ hash := PySem.PyData.keyHash P (PySem.Str.ofString "__name__"), key := PySem.Value.str (PySem.Str.ofString "__name__") 165, val := PySem.Value.str (PySem.Str.ofString "law_nm0113_01") 451 }, { hash := PySem.PyData.keyHash P (PySem.Str.ofString "__doc__"), key := PySem.Value.str (PySem.Str.ofString "__doc__") 166, val := PySem.Value.none }, { hash := PySem.PyData.keyHash P (PySem.Str.ofString "__package__"), key := PySem.Value.str (PySem.Str.ofString "__package__") 167, val := PySem.Value.none }, { hash := PySem.PyData.keyHash P (PySem.Str.ofString "__loader__"), key := PySem.Value.str (PySem.Str.ofString "__loader__") 168, val := PySem.Value.builtin "__main__.__loader__#opaque" }, { hash := PySem.PyData.keyHash P (PySem.Str.ofString "__spec__"), key := PySem.Value.str (PySem.Str.ofString "__spec__") 169, val := PySem.Value.none }, { hash := PySem.PyData.keyHash P (PySem.Str.ofString "__annotations__"), key := PySem.Value.str (PySem.Str.ofString "__annotations__") 170, val := PySem.Value.ref 6 }, { hash := PySem.PyData.keyHash P (PySem.Str.ofString "__builtins__"), key := PySem.Value.str (PySem.Str.ofString "__builtins__") 171, val := PySem.Value.ref 4 }, { hash := PySem.PyData.keyHash P (PySem.Str.ofString "__file__"), key := PySem.Value.str (PySem.Str.ofString "__file__") 173, val := PySem.Value.str (PySem.Str.ofString "/claim/cut.py") 172 }, { hash := PySem.PyData.keyHash P (PySem.Str.ofString "__cached__"), key := PySem.Value.str (PySem.Str.ofString "__cached__") 174, val := PySem.Value.none }, { hash := PySem.PyData.keyHash P (PySem.Str.ofString "WasmFault"), key := PySem.Value.str (PySem.Str.ofString "WasmFault") 217, val := PySem.Value.ref 31 }, { hash := PySem.PyData.keyHash P (PySem.Str.ofString "Trap"), key := PySem.Value.str (PySem.Str.ofString "Trap") 233, val := PySem.Value.ref 44 }, { hash := PySem.PyData.keyHash P (PySem.Str.ofString "Misused"), key := PySem.Value.str (PySem.Str.ofString "Misused") 249, val := PySem.Value.ref 56 }, { hash := PySem.PyData.keyHash P (PySem.Str.ofString "REFUSED"), key := PySem.Value.str (PySem.Str.ofString "REFUSED") 253, val := PySem.Value.int 4294967295 252 }, { hash := PySem.PyData.keyHash P (PySem.Str.ofString "OUTSIDE_TABLE"), key := PySem.Value.str (PySem.Str.ofString "OUTSIDE_TABLE") 255, val := PySem.Value.str (PySem.Str.ofString "out of bounds table access") 254 }, { hash := PySem.PyData.keyHash P (PySem.Str.ofString "want_within"), key := PySem.Value.str (PySem.Str.ofString "want_within") 265, val := PySem.Value.ref 65 }, { hash := PySem.PyData.keyHash P (PySem.Str.ofString "grown"), key := PySem.Value.str (PySem.Str.ofString "grown") 276, val := PySem.Value.ref 72 }, { hash := PySem.PyData.keyHash P (PySem.Str.ofString "Table"), key := PySem.Value.str (PySem.Str.ofString "Table") 401, val := PySem.Value.ref 159 }, { hash := PySem.PyData.keyHash P (PySem.Str.ofString "FUNCREF"), key := PySem.Value.str (PySem.Str.ofString "FUNCREF") 406, val := PySem.Value.int (-16) 405 }, { hash := PySem.PyData.keyHash P (PySem.Str.ofString "EXTERNREF"), key := PySem.Value.str (PySem.Str.ofString "EXTERNREF") 409, val := PySem.Value.int (-17) 408 }, { hash := PySem.PyData.keyHash P (PySem.Str.ofString "Sizes"), key := PySem.Value.str (PySem.Str.ofString "Sizes") 450, val := PySem.Value.ref 181 }, { hash := PySem.PyData.keyHash P (PySem.Str.ofString "_law_digit"), key := PySem.Value.str (PySem.Str.ofString "_law_digit") 460, val := PySem.Value.ref 192 }, { hash := PySem.PyData.keyHash P (PySem.Str.ofString "_law_operand"), key := PySem.Value.str (PySem.Str.ofString "_law_operand") 469, val := PySem.Value.ref 199 }, { hash := PySem.PyData.keyHash P (PySem.Str.ofString "_law_is_within"), key := PySem.Value.str (PySem.Str.ofString "_law_is_within") 478, val := PySem.Value.ref 206 }, { hash := PySem.PyData.keyHash P (PySem.Str.ofString "_law_due"), key := PySem.Value.str (PySem.Str.ofString "_law_due") 484, val := PySem.Value.ref 211 }, { hash := PySem.PyData.keyHash P (PySem.Str.ofString "_law_told"), key := PySem.Value.str (PySem.Str.ofString "_law_told") 499, val := PySem.Value.ref 218 }, { hash := PySem.PyData.keyHash P (PySem.Str.ofString "_law_source"), key := PySem.Value.str (PySem.Str.ofString "_law_source") 510, val := PySem.Value.ref 225 }, { hash := PySem.PyData.keyHash P (PySem.Str.ofString "_law_is_refused"), key := PySem.Value.str (PySem.Str.ofString "_law_is_refused") 520, val := PySem.Value.ref 232 }, { hash := PySem.PyData.keyHash P (PySem.Str.ofString "_law_is_same"), key := PySem.Value.str (PySem.Str.ofString "_law_is_same") 531, val := PySem.Value.ref 239 }, { hash := PySem.PyData.keyHash P (PySem.Str.ofString "law"), key := PySem.Value.str (PySem.Str.ofString "law") 537, val := PySem.Value.ref 244 }] 29 }) ::
  (nat_lit 15, { cls := PySem.Value.type "tuple", data := PySem.Data.seq #[PySem.Value.type "Exception"] }) ::
  (nat_lit 22, { cls := PySem.Value.type "tuple", data := PySem.Data.seq #[] }) ::
  (nat_lit 24, { cls := PySem.Value.type "tuple", data := PySem.Data.seq #[PySem.Value.str (PySem.Str.ofString "self") 204, PySem.Value.str (PySem.Str.ofString "why") 205] }) ::
  (nat_lit 25, { cls := PySem.Value.type "tuple", data := PySem.Data.seq #[] }) ::
  (nat_lit 27, { cls := PySem.Value.type "code", data := PySem.Data.fields #[PySem.Value.str (PySem.Str.ofString "__init__") 201, PySem.Value.str (PySem.Str.ofString "WasmFault.__init__") 202, PySem.Value.str (PySem.Str.ofString "/claim/cut.py") 203, PySem.Value.int 4 0, PySem.Value.int 2 0, PySem.Value.int 0 0, PySem.Value.int 0 0, PySem.Value.int 3 0, PySem.Value.ref 22, PySem.Value.bool Bool.true, PySem.Value.int 181 0, PySem.Value.ref 23, PySem.Value.none, PySem.Value.ref 24, PySem.Value.ref 25, PySem.Value.ref 26, PySem.Value.int 206 0, PySem.Value.int 4 0, PySem.Value.str (PySem.Str.ofString "/claim/cut.py") 207] }) ::
  (nat_lit 28, { cls := PySem.Value.type "function", data := PySem.Data.func { name := PySem.Str.ofString "__init__", qualname := PySem.Str.ofString "WasmFault.__init__", params := (sArgs (mtAt 1 0)), body := (PySem.FuncBody.stmts (sBody (mtAt 1 0))), scope := (sScope (mtAt 1 0)), globals := 3, closure := [], defaults := PySem.Value.none, kwdefaults := PySem.Value.none, pyModule := PySem.Value.str (PySem.Str.ofString "wasmcore.faults") 187, code := PySem.Value.ref 27 } }) ::
  (nat_lit 29, { cls := PySem.Value.type "tuple", data := PySem.Data.seq #[PySem.Value.str (PySem.Str.ofString "why") 209] }) ::
  (nat_lit 30, { cls := PySem.Value.type "dict", data := PySem.Data.dict #[{ hash := PySem.PyData.keyHash P (PySem.Str.ofString "__module__"), key := PySem.Value.str (PySem.Str.ofString "__module__") 196, val := PySem.Value.str (PySem.Str.ofString "wasmcore.faults") 187 }, { hash := PySem.PyData.keyHash P (PySem.Str.ofString "__firstlineno__"), key := PySem.Value.str (PySem.Str.ofString "__firstlineno__") 200, val := PySem.Value.int 2 199 }, { hash := PySem.PyData.keyHash P (PySem.Str.ofString "__init__"), key := PySem.Value.str (PySem.Str.ofString "__init__") 208, val := PySem.Value.ref 28 }, { hash := PySem.PyData.keyHash P (PySem.Str.ofString "__static_attributes__"), key := PySem.Value.str (PySem.Str.ofString "__static_attributes__") 210, val := PySem.Value.ref 29 }, { hash := PySem.PyData.keyHash P (PySem.Str.ofString "__weakref__"), key := PySem.Value.str (PySem.Str.ofString "__weakref__") 212, val := PySem.Value.ref 32 }, { hash := PySem.PyData.keyHash P (PySem.Str.ofString "__doc__"), key := PySem.Value.str (PySem.Str.ofString "__doc__") 213, val := PySem.Value.none }] 3 }) ::
  (nat_lit 31, { cls := PySem.Value.type "type", data := PySem.Data.cls { name := PySem.Str.ofString "WasmFault", bases := [PySem.Value.type "Exception"], mro := [PySem.Value.ref 31, PySem.Value.type "Exception", PySem.Value.type "BaseException", PySem.Value.type "object"], ns := 30, qualname := PySem.Str.ofString "WasmFault", subclasses := [PySem.Value.ref 44, PySem.Value.ref 56] }, slots := #[Option.some (PySem.Value.ref 15), Option.none, Option.some (PySem.Value.str (PySem.Str.ofString "WasmFault") 189), Option.some (PySem.Value.str (PySem.Str.ofString "WasmFault") 197), Option.some (PySem.Value.builtin "Exception.__new__"), Option.some (PySem.Value.bool Bool.true)] }) ::
  (nat_lit 32, { cls := PySem.Value.type "getset_descriptor", data := PySem.Data.fields #[PySem.Value.str (PySem.Str.ofString "__weakref__") 211, PySem.Value.ref 31, PySem.Value.builtin "ExceptionGroup.__weakref__", PySem.Value.none] }) ::
  (nat_lit 35, { cls := PySem.Value.type "tuple", data := PySem.Data.seq #[PySem.Value.ref 31] }) ::
  (nat_lit 42, { cls := PySem.Value.type "tuple", data := PySem.Data.seq #[] }) ::
  (nat_lit 43, { cls := PySem.Value.type "dict", data := PySem.Data.dict #[{ hash := PySem.PyData.keyHash P (PySem.Str.ofString "__module__"), key := PySem.Value.str (PySem.Str.ofString "__module__") 225, val := PySem.Value.str (PySem.Str.ofString "wasmcore.faults") 187 }, { hash := PySem.PyData.keyHash P (PySem.Str.ofString "__firstlineno__"), key := PySem.Value.str (PySem.Str.ofString "__firstlineno__") 229, val := PySem.Value.int 7 228 }, { hash := PySem.PyData.keyHash P (PySem.Str.ofString "__static_attributes__"), key := PySem.Value.str (PySem.Str.ofString "__static_attributes__") 230, val := PySem.Value.ref 42 }, { hash := PySem.PyData.keyHash P (PySem.Str.ofString "__doc__"), key := PySem.Value.str (PySem.Str.ofString "__doc__") 231, val := PySem.Value.none }] 2 }) ::
  (nat_lit 44, { cls := PySem.Value.type "type", data := PySem.Data.cls { name := PySem.Str.ofString "Trap", bases := [PySem.Value.ref 31], mro := [PySem.Value.ref 44, PySem.Value.ref 31, PySem.Value.type "Exception", PySem.Value.type "BaseException", PySem.Value.type "object"], ns := 43, qualname := PySem.Str.ofString "Trap" }, slots := #[Option.some (PySem.Value.ref 35), Option.none, Option.some (PySem.Value.str (PySem.Str.ofString "Trap") 218), Option.some (PySem.Value.str (PySem.Str.ofString "Trap") 226), Option.some (PySem.Value.builtin "Exception.__new__"), Option.some (PySem.Value.bool Bool.true)] }) ::
  (nat_lit 47, { cls := PySem.Value.type "tuple", data := PySem.Data.seq #[PySem.Value.ref 31] }) ::
  (nat_lit 54, { cls := PySem.Value.type "tuple", data := PySem.Data.seq #[] }) ::
  (nat_lit 55, { cls := PySem.Value.type "dict", data := PySem.Data.dict #[{ hash := PySem.PyData.keyHash P (PySem.Str.ofString "__module__"), key := PySem.Value.str (PySem.Str.ofString "__module__") 241, val := PySem.Value.str (PySem.Str.ofString "wasmcore.faults") 187 }, { hash := PySem.PyData.keyHash P (PySem.Str.ofString "__firstlineno__"), key := PySem.Value.str (PySem.Str.ofString "__firstlineno__") 245, val := PySem.Value.int 9 244 }, { hash := PySem.PyData.keyHash P (PySem.Str.ofString "__static_attributes__"), key := PySem.Value.str (PySem.Str.ofString "__static_attributes__") 246, val := PySem.Value.ref 54 }, { hash := PySem.PyData.keyHash P (PySem.Str.ofString "__doc__"), key := PySem.Value.str (PySem.Str.ofString "__doc__") 247, val := PySem.Value.none }] 2 }) ::
  (nat_lit 56, { cls := PySem.Value.type "type", data := PySem.Data.cls { name := PySem.Str.ofString "Misused", bases := [PySem.Value.ref 31], mro := [PySem.Value.ref 56, PySem.Value.ref 31, PySem.Value.type "Exception", PySem.Value.type "BaseException", PySem.Value.type "object"], ns := 55, qualname := PySem.Str.ofString "Misused" }, slots := #[Option.some (PySem.Value.ref 47), Option.none, Option.some (PySem.Value.str (PySem.Str.ofString "Misused") 234), Option.some (PySem.Value.str (PySem.Str.ofString "Misused") 242), Option.some (PySem.Value.builtin "Exception.__new__"), Option.some (PySem.Value.bool Bool.true)] }) ::
  (nat_lit 59, { cls := PySem.Value.type "tuple", data := PySem.Data.seq #[] }) ::
  (nat_lit 61, { cls := PySem.Value.type "tuple", data := PySem.Data.seq #[PySem.Value.str (PySem.Str.ofString "at") 259, PySem.Value.str (PySem.Str.ofString "many") 260, PySem.Value.str (PySem.Str.ofString "size") 261, PySem.Value.str (PySem.Str.ofString "why") 262] }) ::
  (nat_lit 62, { cls := PySem.Value.type "tuple", data := PySem.Data.seq #[] }) ::
  (nat_lit 64, { cls := PySem.Value.type "code", data := PySem.Data.fields #[PySem.Value.str (PySem.Str.ofString "want_within") 256, PySem.Value.str (PySem.Str.ofString "want_within") 257, PySem.Value.str (PySem.Str.ofString "/claim/cut.py") 258, PySem.Value.int 14 0, PySem.Value.int 4 0, PySem.Value.int 0 0, PySem.Value.int 0 0, PySem.Value.int 3 0, PySem.Value.ref 59, PySem.Value.bool Bool.true, PySem.Value.int 181 0, PySem.Value.ref 60, PySem.Value.none, PySem.Value.ref 61, PySem.Value.ref 62, PySem.Value.ref 63, PySem.Value.int 263 0, PySem.Value.int 14 0, PySem.Value.str (PySem.Str.ofString "/claim/cut.py") 264] }) ::
  (nat_lit 65, { cls := PySem.Value.type "function", data := PySem.Data.func { name := PySem.Str.ofString "want_within", qualname := PySem.Str.ofString "want_within", params := (sArgs (fnAt 7)), body := (PySem.FuncBody.stmts (sBody (fnAt 7))), scope := (sScope (fnAt 7)), globals := 3, closure := [], defaults := PySem.Value.none, kwdefaults := PySem.Value.none, pyModule := PySem.Value.str (PySem.Str.ofString "wasmcore.store") 250, code := PySem.Value.ref 64 } }) ::
  (nat_lit 66, { cls := PySem.Value.type "tuple", data := PySem.Data.seq #[] }) ::
  (nat_lit 68, { cls := PySem.Value.type "tuple", data := PySem.Data.seq #[PySem.Value.str (PySem.Str.ofString "size") 269, PySem.Value.str (PySem.Str.ofString "more") 270, PySem.Value.str (PySem.Str.ofString "most") 271, PySem.Value.str (PySem.Str.ofString "greatest") 272, PySem.Value.str (PySem.Str.ofString "found") 273] }) ::
  (nat_lit 69, { cls := PySem.Value.type "tuple", data := PySem.Data.seq #[] }) ::
  (nat_lit 71, { cls := PySem.Value.type "code", data := PySem.Data.fields #[PySem.Value.str (PySem.Str.ofString "grown") 266, PySem.Value.str (PySem.Str.ofString "grown") 267, PySem.Value.str (PySem.Str.ofString "/claim/cut.py") 268, PySem.Value.int 17 0, PySem.Value.int 4 0, PySem.Value.int 0 0, PySem.Value.int 0 0, PySem.Value.int 3 0, PySem.Value.ref 66, PySem.Value.bool Bool.true, PySem.Value.int 181 0, PySem.Value.ref 67, PySem.Value.none, PySem.Value.ref 68, PySem.Value.ref 69, PySem.Value.ref 70, PySem.Value.int 274 0, PySem.Value.int 17 0, PySem.Value.str (PySem.Str.ofString "/claim/cut.py") 275] }) ::
  (nat_lit 72, { cls := PySem.Value.type "function", data := PySem.Data.func { name := PySem.Str.ofString "grown", qualname := PySem.Str.ofString "grown", params := (sArgs (fnAt 8)), body := (PySem.FuncBody.stmts (sBody (fnAt 8))), scope := (sScope (fnAt 8)), globals := 3, closure := [], defaults := PySem.Value.none, kwdefaults := PySem.Value.none, pyModule := PySem.Value.str (PySem.Str.ofString "wasmcore.store") 250, code := PySem.Value.ref 71 } }) ::
  (nat_lit 80, { cls := PySem.Value.type "tuple", data := PySem.Data.seq #[] }) ::
  (nat_lit 82, { cls := PySem.Value.type "tuple", data := PySem.Data.seq #[PySem.Value.str (PySem.Str.ofString "self") 292, PySem.Value.str (PySem.Str.ofString "kind") 293, PySem.Value.str (PySem.Str.ofString "least") 294, PySem.Value.str (PySem.Str.ofString "most") 295, PySem.Value.str (PySem.Str.ofString "sizes") 296] }) ::
  (nat_lit 83, { cls := PySem.Value.type "tuple", data := PySem.Data.seq #[] }) ::
  (nat_lit 85, { cls := PySem.Value.type "code", data := PySem.Data.fields #[PySem.Value.str (PySem.Str.ofString "__init__") 289, PySem.Value.str (PySem.Str.ofString "Table.__init__") 290, PySem.Value.str (PySem.Str.ofString "/claim/cut.py") 291, PySem.Value.int 24 0, PySem.Value.int 5 0, PySem.Value.int 0 0, PySem.Value.int 0 0, PySem.Value.int 3 0, PySem.Value.ref 80, PySem.Value.bool Bool.true, PySem.Value.int 181 0, PySem.Value.ref 81, PySem.Value.none, PySem.Value.ref 82, PySem.Value.ref 83, PySem.Value.ref 84, PySem.Value.int 297 0, PySem.Value.int 24 0, PySem.Value.str (PySem.Str.ofString "/claim/cut.py") 298] }) ::
  (nat_lit 86, { cls := PySem.Value.type "function", data := PySem.Data.func { name := PySem.Str.ofString "__init__", qualname := PySem.Str.ofString "Table.__init__", params := (sArgs (mtAt 9 0)), body := (PySem.FuncBody.stmts (sBody (mtAt 9 0))), scope := (sScope (mtAt 9 0)), globals := 3, closure := [], defaults := PySem.Value.none, kwdefaults := PySem.Value.none, pyModule := PySem.Value.str (PySem.Str.ofString "wasmcore.store") 250, code := PySem.Value.ref 85 } }) ::
  (nat_lit 87, { cls := PySem.Value.type "tuple", data := PySem.Data.seq #[] }) ::
  (nat_lit 89, { cls := PySem.Value.type "tuple", data := PySem.Data.seq #[PySem.Value.str (PySem.Str.ofString "self") 303] }) ::
  (nat_lit 90, { cls := PySem.Value.type "tuple", data := PySem.Data.seq #[] }) ::
  (nat_lit 92, { cls := PySem.Value.type "code", data := PySem.Data.fields #[PySem.Value.str (PySem.Str.ofString "size") 300, PySem.Value.str (PySem.Str.ofString "Table.size") 301, PySem.Value.str (PySem.Str.ofString "/claim/cut.py") 302, PySem.Value.int 32 0, PySem.Value.int 1 0, PySem.Value.int 0 0, PySem.Value.int 0 0, PySem.Value.int 3 0, PySem.Value.ref 87, PySem.Value.bool Bool.true, PySem.Value.int 181 0, PySem.Value.ref 88, PySem.Value.none, PySem.Value.ref 89, PySem.Value.ref 90, PySem.Value.ref 91, PySem.Value.int 304 0, PySem.Value.int 32 0, PySem.Value.str (PySem.Str.ofString "/claim/cut.py") 305] }) ::
  (nat_lit 93, { cls := PySem.Value.type "function", data := PySem.Data.func { name := PySem.Str.ofString "size", qualname := PySem.Str.ofString "Table.size", params := (sArgs (mtAt 9 1)), body := (PySem.FuncBody.stmts (sBody (mtAt 9 1))), scope := (sScope (mtAt 9 1)), globals := 3, closure := [], defaults := PySem.Value.none, kwdefaults := PySem.Value.none, pyModule := PySem.Value.str (PySem.Str.ofString "wasmcore.store") 250, code := PySem.Value.ref 92 } }) ::
  (nat_lit 94, { cls := PySem.Value.type "tuple", data := PySem.Data.seq #[] }) ::
  (nat_lit 96, { cls := PySem.Value.type "tuple", data := PySem.Data.seq #[PySem.Value.str (PySem.Str.ofString "self") 310] }) ::
  (nat_lit 97, { cls := PySem.Value.type "tuple", data := PySem.Data.seq #[] }) ::
  (nat_lit 99, { cls := PySem.Value.type "code", data := PySem.Data.fields #[PySem.Value.str (PySem.Str.ofString "table_kind") 307, PySem.Value.str (PySem.Str.ofString "Table.table_kind") 308, PySem.Value.str (PySem.Str.ofString "/claim/cut.py") 309, PySem.Value.int 35 0, PySem.Value.int 1 0, PySem.Value.int 0 0, PySem.Value.int 0 0, PySem.Value.int 3 0, PySem.Value.ref 94, PySem.Value.bool Bool.true, PySem.Value.int 181 0, PySem.Value.ref 95, PySem.Value.none, PySem.Value.ref 96, PySem.Value.ref 97, PySem.Value.ref 98, PySem.Value.int 311 0, PySem.Value.int 35 0, PySem.Value.str (PySem.Str.ofString "/claim/cut.py") 312] }) ::
  (nat_lit 100, { cls := PySem.Value.type "function", data := PySem.Data.func { name := PySem.Str.ofString "table_kind", qualname := PySem.Str.ofString "Table.table_kind", params := (sArgs (mtAt 9 2)), body := (PySem.FuncBody.stmts (sBody (mtAt 9 2))), scope := (sScope (mtAt 9 2)), globals := 3, closure := [], defaults := PySem.Value.none, kwdefaults := PySem.Value.none, pyModule := PySem.Value.str (PySem.Str.ofString "wasmcore.store") 250, code := PySem.Value.ref 99 } }) ::
  (nat_lit 101, { cls := PySem.Value.type "tuple", data := PySem.Data.seq #[] }) ::
  (nat_lit 103, { cls := PySem.Value.type "tuple", data := PySem.Data.seq #[PySem.Value.str (PySem.Str.ofString "self") 317, PySem.Value.str (PySem.Str.ofString "at") 318, PySem.Value.str (PySem.Str.ofString "many") 319] }) ::
  (nat_lit 104, { cls := PySem.Value.type "tuple", data := PySem.Data.seq #[] }) ::
  (nat_lit 106, { cls := PySem.Value.type "code", data := PySem.Data.fields #[PySem.Value.str (PySem.Str.ofString "want") 314, PySem.Value.str (PySem.Str.ofString "Table.want") 315, PySem.Value.str (PySem.Str.ofString "/claim/cut.py") 316, PySem.Value.int 38 0, PySem.Value.int 3 0, PySem.Value.int 0 0, PySem.Value.int 0 0, PySem.Value.int 3 0, PySem.Value.ref 101, PySem.Value.bool Bool.true, PySem.Value.int 181 0, PySem.Value.ref 102, PySem.Value.none, PySem.Value.ref 103, PySem.Value.ref 104, PySem.Value.ref 105, PySem.Value.int 320 0, PySem.Value.int 38 0, PySem.Value.str (PySem.Str.ofString "/claim/cut.py") 321] }) ::
  (nat_lit 107, { cls := PySem.Value.type "function", data := PySem.Data.func { name := PySem.Str.ofString "want", qualname := PySem.Str.ofString "Table.want", params := (sArgs (mtAt 9 3)), body := (PySem.FuncBody.stmts (sBody (mtAt 9 3))), scope := (sScope (mtAt 9 3)), globals := 3, closure := [], defaults := PySem.Value.none, kwdefaults := PySem.Value.none, pyModule := PySem.Value.str (PySem.Str.ofString "wasmcore.store") 250, code := PySem.Value.ref 106 } }) ::
  (nat_lit 108, { cls := PySem.Value.type "tuple", data := PySem.Data.seq #[] }) ::
  (nat_lit 110, { cls := PySem.Value.type "tuple", data := PySem.Data.seq #[PySem.Value.str (PySem.Str.ofString "self") 326, PySem.Value.str (PySem.Str.ofString "at") 327] }) ::
  (nat_lit 111, { cls := PySem.Value.type "tuple", data := PySem.Data.seq #[] }) ::
  (nat_lit 113, { cls := PySem.Value.type "code", data := PySem.Data.fields #[PySem.Value.str (PySem.Str.ofString "get") 323, PySem.Value.str (PySem.Str.ofString "Table.get") 324, PySem.Value.str (PySem.Str.ofString "/claim/cut.py") 325, PySem.Value.int 41 0, PySem.Value.int 2 0, PySem.Value.int 0 0, PySem.Value.int 0 0, PySem.Value.int 3 0, PySem.Value.ref 108, PySem.Value.bool Bool.true, PySem.Value.int 181 0, PySem.Value.ref 109, PySem.Value.none, PySem.Value.ref 110, PySem.Value.ref 111, PySem.Value.ref 112, PySem.Value.int 328 0, PySem.Value.int 41 0, PySem.Value.str (PySem.Str.ofString "/claim/cut.py") 329] }) ::
  (nat_lit 114, { cls := PySem.Value.type "function", data := PySem.Data.func { name := PySem.Str.ofString "get", qualname := PySem.Str.ofString "Table.get", params := (sArgs (mtAt 9 4)), body := (PySem.FuncBody.stmts (sBody (mtAt 9 4))), scope := (sScope (mtAt 9 4)), globals := 3, closure := [], defaults := PySem.Value.none, kwdefaults := PySem.Value.none, pyModule := PySem.Value.str (PySem.Str.ofString "wasmcore.store") 250, code := PySem.Value.ref 113 } }) ::
  (nat_lit 115, { cls := PySem.Value.type "tuple", data := PySem.Data.seq #[] }) ::
  (nat_lit 117, { cls := PySem.Value.type "tuple", data := PySem.Data.seq #[PySem.Value.str (PySem.Str.ofString "self") 334, PySem.Value.str (PySem.Str.ofString "at") 335, PySem.Value.str (PySem.Str.ofString "value") 336] }) ::
  (nat_lit 118, { cls := PySem.Value.type "tuple", data := PySem.Data.seq #[] }) ::
  (nat_lit 120, { cls := PySem.Value.type "code", data := PySem.Data.fields #[PySem.Value.str (PySem.Str.ofString "put") 331, PySem.Value.str (PySem.Str.ofString "Table.put") 332, PySem.Value.str (PySem.Str.ofString "/claim/cut.py") 333, PySem.Value.int 45 0, PySem.Value.int 3 0, PySem.Value.int 0 0, PySem.Value.int 0 0, PySem.Value.int 3 0, PySem.Value.ref 115, PySem.Value.bool Bool.true, PySem.Value.int 181 0, PySem.Value.ref 116, PySem.Value.none, PySem.Value.ref 117, PySem.Value.ref 118, PySem.Value.ref 119, PySem.Value.int 337 0, PySem.Value.int 45 0, PySem.Value.str (PySem.Str.ofString "/claim/cut.py") 338] }) ::
  (nat_lit 121, { cls := PySem.Value.type "function", data := PySem.Data.func { name := PySem.Str.ofString "put", qualname := PySem.Str.ofString "Table.put", params := (sArgs (mtAt 9 5)), body := (PySem.FuncBody.stmts (sBody (mtAt 9 5))), scope := (sScope (mtAt 9 5)), globals := 3, closure := [], defaults := PySem.Value.none, kwdefaults := PySem.Value.none, pyModule := PySem.Value.str (PySem.Str.ofString "wasmcore.store") 250, code := PySem.Value.ref 120 } }) ::
  (nat_lit 122, { cls := PySem.Value.type "tuple", data := PySem.Data.seq #[] }) ::
  (nat_lit 124, { cls := PySem.Value.type "tuple", data := PySem.Data.seq #[PySem.Value.str (PySem.Str.ofString "self") 343, PySem.Value.str (PySem.Str.ofString "more") 344, PySem.Value.str (PySem.Str.ofString "value") 345, PySem.Value.str (PySem.Str.ofString "old") 346] }) ::
  (nat_lit 125, { cls := PySem.Value.type "tuple", data := PySem.Data.seq #[] }) ::
  (nat_lit 127, { cls := PySem.Value.type "code", data := PySem.Data.fields #[PySem.Value.str (PySem.Str.ofString "grow") 340, PySem.Value.str (PySem.Str.ofString "Table.grow") 341, PySem.Value.str (PySem.Str.ofString "/claim/cut.py") 342, PySem.Value.int 49 0, PySem.Value.int 3 0, PySem.Value.int 0 0, PySem.Value.int 0 0, PySem.Value.int 3 0, PySem.Value.ref 122, PySem.Value.bool Bool.true, PySem.Value.int 181 0, PySem.Value.ref 123, PySem.Value.none, PySem.Value.ref 124, PySem.Value.ref 125, PySem.Value.ref 126, PySem.Value.int 347 0, PySem.Value.int 49 0, PySem.Value.str (PySem.Str.ofString "/claim/cut.py") 348] }) ::
  (nat_lit 128, { cls := PySem.Value.type "function", data := PySem.Data.func { name := PySem.Str.ofString "grow", qualname := PySem.Str.ofString "Table.grow", params := (sArgs (mtAt 9 6)), body := (PySem.FuncBody.stmts (sBody (mtAt 9 6))), scope := (sScope (mtAt 9 6)), globals := 3, closure := [], defaults := PySem.Value.none, kwdefaults := PySem.Value.none, pyModule := PySem.Value.str (PySem.Str.ofString "wasmcore.store") 250, code := PySem.Value.ref 127 } }) ::
  (nat_lit 129, { cls := PySem.Value.type "tuple", data := PySem.Data.seq #[] }) ::
  (nat_lit 131, { cls := PySem.Value.type "tuple", data := PySem.Data.seq #[PySem.Value.str (PySem.Str.ofString "self") 353, PySem.Value.str (PySem.Str.ofString "at") 354, PySem.Value.str (PySem.Str.ofString "value") 355, PySem.Value.str (PySem.Str.ofString "many") 356] }) ::
  (nat_lit 132, { cls := PySem.Value.type "tuple", data := PySem.Data.seq #[] }) ::
  (nat_lit 134, { cls := PySem.Value.type "code", data := PySem.Data.fields #[PySem.Value.str (PySem.Str.ofString "fill") 350, PySem.Value.str (PySem.Str.ofString "Table.fill") 351, PySem.Value.str (PySem.Str.ofString "/claim/cut.py") 352, PySem.Value.int 56 0, PySem.Value.int 4 0, PySem.Value.int 0 0, PySem.Value.int 0 0, PySem.Value.int 3 0, PySem.Value.ref 129, PySem.Value.bool Bool.true, PySem.Value.int 181 0, PySem.Value.ref 130, PySem.Value.none, PySem.Value.ref 131, PySem.Value.ref 132, PySem.Value.ref 133, PySem.Value.int 357 0, PySem.Value.int 56 0, PySem.Value.str (PySem.Str.ofString "/claim/cut.py") 358] }) ::
  (nat_lit 135, { cls := PySem.Value.type "function", data := PySem.Data.func { name := PySem.Str.ofString "fill", qualname := PySem.Str.ofString "Table.fill", params := (sArgs (mtAt 9 7)), body := (PySem.FuncBody.stmts (sBody (mtAt 9 7))), scope := (sScope (mtAt 9 7)), globals := 3, closure := [], defaults := PySem.Value.none, kwdefaults := PySem.Value.none, pyModule := PySem.Value.str (PySem.Str.ofString "wasmcore.store") 250, code := PySem.Value.ref 134 } }) ::
  (nat_lit 136, { cls := PySem.Value.type "tuple", data := PySem.Data.seq #[] }) ::
  (nat_lit 138, { cls := PySem.Value.type "tuple", data := PySem.Data.seq #[PySem.Value.str (PySem.Str.ofString "self") 363, PySem.Value.str (PySem.Str.ofString "to") 364, PySem.Value.str (PySem.Str.ofString "source") 365, PySem.Value.str (PySem.Str.ofString "begin") 366, PySem.Value.str (PySem.Str.ofString "many") 367] }) ::
  (nat_lit 139, { cls := PySem.Value.type "tuple", data := PySem.Data.seq #[] }) ::
  (nat_lit 141, { cls := PySem.Value.type "code", data := PySem.Data.fields #[PySem.Value.str (PySem.Str.ofString "copy") 360, PySem.Value.str (PySem.Str.ofString "Table.copy") 361, PySem.Value.str (PySem.Str.ofString "/claim/cut.py") 362, PySem.Value.int 60 0, PySem.Value.int 5 0, PySem.Value.int 0 0, PySem.Value.int 0 0, PySem.Value.int 3 0, PySem.Value.ref 136, PySem.Value.bool Bool.true, PySem.Value.int 181 0, PySem.Value.ref 137, PySem.Value.none, PySem.Value.ref 138, PySem.Value.ref 139, PySem.Value.ref 140, PySem.Value.int 368 0, PySem.Value.int 60 0, PySem.Value.str (PySem.Str.ofString "/claim/cut.py") 369] }) ::
  (nat_lit 142, { cls := PySem.Value.type "function", data := PySem.Data.func { name := PySem.Str.ofString "copy", qualname := PySem.Str.ofString "Table.copy", params := (sArgs (mtAt 9 8)), body := (PySem.FuncBody.stmts (sBody (mtAt 9 8))), scope := (sScope (mtAt 9 8)), globals := 3, closure := [], defaults := PySem.Value.none, kwdefaults := PySem.Value.none, pyModule := PySem.Value.str (PySem.Str.ofString "wasmcore.store") 250, code := PySem.Value.ref 141 } }) ::
  (nat_lit 143, { cls := PySem.Value.type "tuple", data := PySem.Data.seq #[] }) ::
  (nat_lit 145, { cls := PySem.Value.type "tuple", data := PySem.Data.seq #[PySem.Value.str (PySem.Str.ofString "self") 374, PySem.Value.str (PySem.Str.ofString "at") 375, PySem.Value.str (PySem.Str.ofString "items") 376, PySem.Value.str (PySem.Str.ofString "begin") 377, PySem.Value.str (PySem.Str.ofString "many") 378, PySem.Value.str (PySem.Str.ofString "some") 379] }) ::
  (nat_lit 146, { cls := PySem.Value.type "tuple", data := PySem.Data.seq #[] }) ::
  (nat_lit 148, { cls := PySem.Value.type "code", data := PySem.Data.fields #[PySem.Value.str (PySem.Str.ofString "init") 371, PySem.Value.str (PySem.Str.ofString "Table.init") 372, PySem.Value.str (PySem.Str.ofString "/claim/cut.py") 373, PySem.Value.int 65 0, PySem.Value.int 5 0, PySem.Value.int 0 0, PySem.Value.int 0 0, PySem.Value.int 3 0, PySem.Value.ref 143, PySem.Value.bool Bool.true, PySem.Value.int 181 0, PySem.Value.ref 144, PySem.Value.none, PySem.Value.ref 145, PySem.Value.ref 146, PySem.Value.ref 147, PySem.Value.int 380 0, PySem.Value.int 65 0, PySem.Value.str (PySem.Str.ofString "/claim/cut.py") 381] }) ::
  (nat_lit 149, { cls := PySem.Value.type "function", data := PySem.Data.func { name := PySem.Str.ofString "init", qualname := PySem.Str.ofString "Table.init", params := (sArgs (mtAt 9 9)), body := (PySem.FuncBody.stmts (sBody (mtAt 9 9))), scope := (sScope (mtAt 9 9)), globals := 3, closure := [], defaults := PySem.Value.none, kwdefaults := PySem.Value.none, pyModule := PySem.Value.str (PySem.Str.ofString "wasmcore.store") 250, code := PySem.Value.ref 148 } }) ::
  (nat_lit 150, { cls := PySem.Value.type "tuple", data := PySem.Data.seq #[] }) ::
  (nat_lit 152, { cls := PySem.Value.type "tuple", data := PySem.Data.seq #[PySem.Value.str (PySem.Str.ofString "self") 386] }) ::
  (nat_lit 153, { cls := PySem.Value.type "tuple", data := PySem.Data.seq #[] }) ::
  (nat_lit 155, { cls := PySem.Value.type "code", data := PySem.Data.fields #[PySem.Value.str (PySem.Str.ofString "plain") 383, PySem.Value.str (PySem.Str.ofString "Table.plain") 384, PySem.Value.str (PySem.Str.ofString "/claim/cut.py") 385, PySem.Value.int 71 0, PySem.Value.int 1 0, PySem.Value.int 0 0, PySem.Value.int 0 0, PySem.Value.int 3 0, PySem.Value.ref 150, PySem.Value.bool Bool.true, PySem.Value.int 181 0, PySem.Value.ref 151, PySem.Value.none, PySem.Value.ref 152, PySem.Value.ref 153, PySem.Value.ref 154, PySem.Value.int 387 0, PySem.Value.int 71 0, PySem.Value.str (PySem.Str.ofString "/claim/cut.py") 388] }) ::
  (nat_lit 156, { cls := PySem.Value.type "function", data := PySem.Data.func { name := PySem.Str.ofString "plain", qualname := PySem.Str.ofString "Table.plain", params := (sArgs (mtAt 9 10)), body := (PySem.FuncBody.stmts (sBody (mtAt 9 10))), scope := (sScope (mtAt 9 10)), globals := 3, closure := [], defaults := PySem.Value.none, kwdefaults := PySem.Value.none, pyModule := PySem.Value.str (PySem.Str.ofString "wasmcore.store") 250, code := PySem.Value.ref 155 } }) ::
  (nat_lit 157, { cls := PySem.Value.type "tuple", data := PySem.Data.seq #[PySem.Value.str (PySem.Str.ofString "elements") 390, PySem.Value.str (PySem.Str.ofString "items") 391, PySem.Value.str (PySem.Str.ofString "kind") 392, PySem.Value.str (PySem.Str.ofString "most") 393] }) ::
  (nat_lit 158, { cls := PySem.Value.type "dict", data := PySem.Data.dict #[{ hash := PySem.PyData.keyHash P (PySem.Str.ofString "__module__"), key := PySem.Value.str (PySem.Str.ofString "__module__") 284, val := PySem.Value.str (PySem.Str.ofString "wasmcore.store") 250 }, { hash := PySem.PyData.keyHash P (PySem.Str.ofString "__firstlineno__"), key := PySem.Value.str (PySem.Str.ofString "__firstlineno__") 288, val := PySem.Value.int 22 287 }, { hash := PySem.PyData.keyHash P (PySem.Str.ofString "__init__"), key := PySem.Value.str (PySem.Str.ofString "__init__") 299, val := PySem.Value.ref 86 }, { hash := PySem.PyData.keyHash P (PySem.Str.ofString "size"), key := PySem.Value.str (PySem.Str.ofString "size") 306, val := PySem.Value.ref 93 }, { hash := PySem.PyData.keyHash P (PySem.Str.ofString "table_kind"), key := PySem.Value.str (PySem.Str.ofString "table_kind") 313, val := PySem.Value.ref 100 }, { hash := PySem.PyData.keyHash P (PySem.Str.ofString "want"), key := PySem.Value.str (PySem.Str.ofString "want") 322, val := PySem.Value.ref 107 }, { hash := PySem.PyData.keyHash P (PySem.Str.ofString "get"), key := PySem.Value.str (PySem.Str.ofString "get") 330, val := PySem.Value.ref 114 }, { hash := PySem.PyData.keyHash P (PySem.Str.ofString "put"), key := PySem.Value.str (PySem.Str.ofString "put") 339, val := PySem.Value.ref 121 }, { hash := PySem.PyData.keyHash P (PySem.Str.ofString "grow"), key := PySem.Value.str (PySem.Str.ofString "grow") 349, val := PySem.Value.ref 128 }, { hash := PySem.PyData.keyHash P (PySem.Str.ofString "fill"), key := PySem.Value.str (PySem.Str.ofString "fill") 359, val := PySem.Value.ref 135 }, { hash := PySem.PyData.keyHash P (PySem.Str.ofString "copy"), key := PySem.Value.str (PySem.Str.ofString "copy") 370, val := PySem.Value.ref 142 }, { hash := PySem.PyData.keyHash P (PySem.Str.ofString "init"), key := PySem.Value.str (PySem.Str.ofString "init") 382, val := PySem.Value.ref 149 }, { hash := PySem.PyData.keyHash P (PySem.Str.ofString "plain"), key := PySem.Value.str (PySem.Str.ofString "plain") 389, val := PySem.Value.ref 156 }, { hash := PySem.PyData.keyHash P (PySem.Str.ofString "__static_attributes__"), key := PySem.Value.str (PySem.Str.ofString "__static_attributes__") 394, val := PySem.Value.ref 157 }, { hash := PySem.PyData.keyHash P (PySem.Str.ofString "__dict__"), key := PySem.Value.str (PySem.Str.ofString "__dict__") 396, val := PySem.Value.ref 160 }, { hash := PySem.PyData.keyHash P (PySem.Str.ofString "__weakref__"), key := PySem.Value.str (PySem.Str.ofString "__weakref__") 398, val := PySem.Value.ref 161 }, { hash := PySem.PyData.keyHash P (PySem.Str.ofString "__doc__"), key := PySem.Value.str (PySem.Str.ofString "__doc__") 399, val := PySem.Value.none }] 4 }) ::
  (nat_lit 159, { cls := PySem.Value.type "type", data := PySem.Data.cls { name := PySem.Str.ofString "Table", bases := [PySem.Value.type "object"], mro := [PySem.Value.ref 159, PySem.Value.type "object"], ns := 158, qualname := PySem.Str.ofString "Table" }, slots := #[Option.none, Option.none, Option.some (PySem.Value.str (PySem.Str.ofString "Table") 277), Option.some (PySem.Value.str (PySem.Str.ofString "Table") 285), Option.some (PySem.Value.builtin "object.__new__"), Option.some (PySem.Value.bool Bool.true)] }) ::
  (nat_lit 160, { cls := PySem.Value.type "getset_descriptor", data := PySem.Data.fields #[PySem.Value.str (PySem.Str.ofString "__dict__") 395, PySem.Value.ref 159, PySem.Value.builtin "function.__dict__", PySem.Value.builtin "function.__dict__#set"] }) ::
  (nat_lit 161, { cls := PySem.Value.type "getset_descriptor", data := PySem.Data.fields #[PySem.Value.str (PySem.Str.ofString "__weakref__") 397, PySem.Value.ref 159, PySem.Value.builtin "ExceptionGroup.__weakref__", PySem.Value.none] }) ::
  (nat_lit 171, { cls := PySem.Value.type "tuple", data := PySem.Data.seq #[PySem.Value.int 65536 422, PySem.Value.int 65536 423, PySem.Value.int 4294967295 424, PySem.Value.int 200 425, PySem.Value.none] }) ::
  (nat_lit 172, { cls := PySem.Value.type "tuple", data := PySem.Data.seq #[] }) ::
  (nat_lit 174, { cls := PySem.Value.type "tuple", data := PySem.Data.seq #[PySem.Value.str (PySem.Str.ofString "self") 429, PySem.Value.str (PySem.Str.ofString "page") 430, PySem.Value.str (PySem.Str.ofString "pages") 431, PySem.Value.str (PySem.Str.ofString "elements") 432, PySem.Value.str (PySem.Str.ofString "depth") 433, PySem.Value.str (PySem.Str.ofString "fuel") 434] }) ::
  (nat_lit 175, { cls := PySem.Value.type "tuple", data := PySem.Data.seq #[] }) ::
  (nat_lit 177, { cls := PySem.Value.type "code", data := PySem.Data.fields #[PySem.Value.str (PySem.Str.ofString "__init__") 426, PySem.Value.str (PySem.Str.ofString "Sizes.__init__") 427, PySem.Value.str (PySem.Str.ofString "/claim/cut.py") 428, PySem.Value.int 78 0, PySem.Value.int 6 0, PySem.Value.int 0 0, PySem.Value.int 0 0, PySem.Value.int 3 0, PySem.Value.ref 172, PySem.Value.bool Bool.true, PySem.Value.int 181 0, PySem.Value.ref 173, PySem.Value.none, PySem.Value.ref 174, PySem.Value.ref 175, PySem.Value.ref 176, PySem.Value.int 435 0, PySem.Value.int 78 0, PySem.Value.str (PySem.Str.ofString "/claim/cut.py") 436] }) ::
  (nat_lit 178, { cls := PySem.Value.type "function", data := PySem.Data.func { name := PySem.Str.ofString "__init__", qualname := PySem.Str.ofString "Sizes.__init__", params := (sArgs (mtAt 13 0)), body := (PySem.FuncBody.stmts (sBody (mtAt 13 0))), scope := (sScope (mtAt 13 0)), globals := 3, closure := [], defaults := PySem.Value.ref 171, kwdefaults := PySem.Value.none, pyModule := PySem.Value.str (PySem.Str.ofString "wasmcore.kinds") 402, code := PySem.Value.ref 177 } }) ::
  (nat_lit 179, { cls := PySem.Value.type "tuple", data := PySem.Data.seq #[PySem.Value.str (PySem.Str.ofString "depth") 438, PySem.Value.str (PySem.Str.ofString "elements") 439, PySem.Value.str (PySem.Str.ofString "fuel") 440, PySem.Value.str (PySem.Str.ofString "page") 441, PySem.Value.str (PySem.Str.ofString "pages") 442] }) ::
  (nat_lit 180, { cls := PySem.Value.type "dict", data := PySem.Data.dict #[{ hash := PySem.PyData.keyHash P (PySem.Str.ofString "__module__"), key := PySem.Value.str (PySem.Str.ofString "__module__") 417, val := PySem.Value.str (PySem.Str.ofString "wasmcore.kinds") 402 }, { hash := PySem.PyData.keyHash P (PySem.Str.ofString "__firstlineno__"), key := PySem.Value.str (PySem.Str.ofString "__firstlineno__") 421, val := PySem.Value.int 76 420 }, { hash := PySem.PyData.keyHash P (PySem.Str.ofString "__init__"), key := PySem.Value.str (PySem.Str.ofString "__init__") 437, val := PySem.Value.ref 178 }, { hash := PySem.PyData.keyHash P (PySem.Str.ofString "__static_attributes__"), key := PySem.Value.str (PySem.Str.ofString "__static_attributes__") 443, val := PySem.Value.ref 179 }, { hash := PySem.PyData.keyHash P (PySem.Str.ofString "__dict__"), key := PySem.Value.str (PySem.Str.ofString "__dict__") 445, val := PySem.Value.ref 182 }, { hash := PySem.PyData.keyHash P (PySem.Str.ofString "__weakref__"), key := PySem.Value.str (PySem.Str.ofString "__weakref__") 447, val := PySem.Value.ref 183 }, { hash := PySem.PyData.keyHash P (PySem.Str.ofString "__doc__"), key := PySem.Value.str (PySem.Str.ofString "__doc__") 448, val := PySem.Value.none }] 4 }) ::
  (nat_lit 181, { cls := PySem.Value.type "type", data := PySem.Data.cls { name := PySem.Str.ofString "Sizes", bases := [PySem.Value.type "object"], mro := [PySem.Value.ref 181, PySem.Value.type "object"], ns := 180, qualname := PySem.Str.ofString "Sizes" }, slots := #[Option.none, Option.none, Option.some (PySem.Value.str (PySem.Str.ofString "Sizes") 410), Option.some (PySem.Value.str (PySem.Str.ofString "Sizes") 418), Option.some (PySem.Value.builtin "object.__new__"), Option.some (PySem.Value.bool Bool.true)] }) ::
  (nat_lit 182, { cls := PySem.Value.type "getset_descriptor", data := PySem.Data.fields #[PySem.Value.str (PySem.Str.ofString "__dict__") 444, PySem.Value.ref 181, PySem.Value.builtin "function.__dict__", PySem.Value.builtin "function.__dict__#set"] }) ::
  (nat_lit 183, { cls := PySem.Value.type "getset_descriptor", data := PySem.Data.fields #[PySem.Value.str (PySem.Str.ofString "__weakref__") 446, PySem.Value.ref 181, PySem.Value.builtin "ExceptionGroup.__weakref__", PySem.Value.none] }) ::
  (nat_lit 186, { cls := PySem.Value.type "tuple", data := PySem.Data.seq #[] }) ::
  (nat_lit 188, { cls := PySem.Value.type "tuple", data := PySem.Data.seq #[PySem.Value.str (PySem.Str.ofString "script") 456, PySem.Value.str (PySem.Str.ofString "place") 457] }) ::
  (nat_lit 189, { cls := PySem.Value.type "tuple", data := PySem.Data.seq #[] }) ::
  (nat_lit 191, { cls := PySem.Value.type "code", data := PySem.Data.fields #[PySem.Value.str (PySem.Str.ofString "_law_digit") 453, PySem.Value.str (PySem.Str.ofString "_law_digit") 454, PySem.Value.str (PySem.Str.ofString "/claim/cut.py") 455, PySem.Value.int 85 0, PySem.Value.int 2 0, PySem.Value.int 0 0, PySem.Value.int 0 0, PySem.Value.int 3 0, PySem.Value.ref 186, PySem.Value.bool Bool.true, PySem.Value.int 181 0, PySem.Value.ref 187, PySem.Value.none, PySem.Value.ref 188, PySem.Value.ref 189, PySem.Value.ref 190, PySem.Value.int 458 0, PySem.Value.int 85 0, PySem.Value.str (PySem.Str.ofString "/claim/cut.py") 459] }) ::
  (nat_lit 192, { cls := PySem.Value.type "function", data := PySem.Data.func { name := PySem.Str.ofString "_law_digit", qualname := PySem.Str.ofString "_law_digit", params := (sArgs (fnAt 15)), body := (PySem.FuncBody.stmts (sBody (fnAt 15))), scope := (sScope (fnAt 15)), globals := 3, closure := [], defaults := PySem.Value.none, kwdefaults := PySem.Value.none, pyModule := PySem.Value.str (PySem.Str.ofString "law_nm0113_01") 451, code := PySem.Value.ref 191 } }) ::
  (nat_lit 193, { cls := PySem.Value.type "tuple", data := PySem.Data.seq #[] }) ::
  (nat_lit 195, { cls := PySem.Value.type "tuple", data := PySem.Data.seq #[PySem.Value.str (PySem.Str.ofString "digit") 464, PySem.Value.str (PySem.Str.ofString "shift") 465, PySem.Value.str (PySem.Str.ofString "many") 466] }) ::
  (nat_lit 196, { cls := PySem.Value.type "tuple", data := PySem.Data.seq #[] }) ::
  (nat_lit 198, { cls := PySem.Value.type "code", data := PySem.Data.fields #[PySem.Value.str (PySem.Str.ofString "_law_operand") 461, PySem.Value.str (PySem.Str.ofString "_law_operand") 462, PySem.Value.str (PySem.Str.ofString "/claim/cut.py") 463, PySem.Value.int 87 0, PySem.Value.int 3 0, PySem.Value.int 0 0, PySem.Value.int 0 0, PySem.Value.int 3 0, PySem.Value.ref 193, PySem.Value.bool Bool.true, PySem.Value.int 181 0, PySem.Value.ref 194, PySem.Value.none, PySem.Value.ref 195, PySem.Value.ref 196, PySem.Value.ref 197, PySem.Value.int 467 0, PySem.Value.int 87 0, PySem.Value.str (PySem.Str.ofString "/claim/cut.py") 468] }) ::
  (nat_lit 199, { cls := PySem.Value.type "function", data := PySem.Data.func { name := PySem.Str.ofString "_law_operand", qualname := PySem.Str.ofString "_law_operand", params := (sArgs (fnAt 16)), body := (PySem.FuncBody.stmts (sBody (fnAt 16))), scope := (sScope (fnAt 16)), globals := 3, closure := [], defaults := PySem.Value.none, kwdefaults := PySem.Value.none, pyModule := PySem.Value.str (PySem.Str.ofString "law_nm0113_01") 451, code := PySem.Value.ref 198 } }) ::
  (nat_lit 200, { cls := PySem.Value.type "tuple", data := PySem.Data.seq #[] }) ::
  (nat_lit 202, { cls := PySem.Value.type "tuple", data := PySem.Data.seq #[PySem.Value.str (PySem.Str.ofString "row") 473, PySem.Value.str (PySem.Str.ofString "at") 474, PySem.Value.str (PySem.Str.ofString "many") 475] }) ::
  (nat_lit 203, { cls := PySem.Value.type "tuple", data := PySem.Data.seq #[] }) ::
  (nat_lit 205, { cls := PySem.Value.type "code", data := PySem.Data.fields #[PySem.Value.str (PySem.Str.ofString "_law_is_within") 470, PySem.Value.str (PySem.Str.ofString "_law_is_within") 471, PySem.Value.str (PySem.Str.ofString "/claim/cut.py") 472, PySem.Value.int 89 0, PySem.Value.int 3 0, PySem.Value.int 0 0, PySem.Value.int 0 0, PySem.Value.int 3 0, PySem.Value.ref 200, PySem.Value.bool Bool.true, PySem.Value.int 181 0, PySem.Value.ref 201, PySem.Value.none, PySem.Value.ref 202, PySem.Value.ref 203, PySem.Value.ref 204, PySem.Value.int 476 0, PySem.Value.int 89 0, PySem.Value.str (PySem.Str.ofString "/claim/cut.py") 477] }) ::
  (nat_lit 206, { cls := PySem.Value.type "function", data := PySem.Data.func { name := PySem.Str.ofString "_law_is_within", qualname := PySem.Str.ofString "_law_is_within", params := (sArgs (fnAt 17)), body := (PySem.FuncBody.stmts (sBody (fnAt 17))), scope := (sScope (fnAt 17)), globals := 3, closure := [], defaults := PySem.Value.none, kwdefaults := PySem.Value.none, pyModule := PySem.Value.str (PySem.Str.ofString "law_nm0113_01") 451, code := PySem.Value.ref 205 } }) ::
  (nat_lit 207, { cls := PySem.Value.type "tuple", data := PySem.Data.seq #[] }) ::
  (nat_lit 210, { cls := PySem.Value.type "code", data := PySem.Data.fields #[PySem.Value.str (PySem.Str.ofString "_law_due") 479, PySem.Value.str (PySem.Str.ofString "_law_due") 480, PySem.Value.str (PySem.Str.ofString "/claim/cut.py") 481, PySem.Value.int 91 0, PySem.Value.int 8 0, PySem.Value.int 0 0, PySem.Value.int 0 0, PySem.Value.int 3 0, PySem.Value.ref 207, PySem.Value.bool Bool.true, PySem.Value.int 181 0, PySem.Value.ref 208, PySem.Value.none, PySem.Value.none, PySem.Value.none, PySem.Value.ref 209, PySem.Value.int 482 0, PySem.Value.int 91 0, PySem.Value.str (PySem.Str.ofString "/claim/cut.py") 483] }) ::
  (nat_lit 211, { cls := PySem.Value.type "function", data := PySem.Data.func { name := PySem.Str.ofString "_law_due", qualname := PySem.Str.ofString "_law_due", params := (sArgs (fnAt 18)), body := (PySem.FuncBody.stmts (sBody (fnAt 18))), scope := (sScope (fnAt 18)), globals := 3, closure := [], defaults := PySem.Value.none, kwdefaults := PySem.Value.none, pyModule := PySem.Value.str (PySem.Str.ofString "law_nm0113_01") 451, code := PySem.Value.ref 210 } }) ::
  (nat_lit 212, { cls := PySem.Value.type "tuple", data := PySem.Data.seq #[] }) ::
  (nat_lit 214, { cls := PySem.Value.type "tuple", data := PySem.Data.seq #[PySem.Value.str (PySem.Str.ofString "op") 488, PySem.Value.str (PySem.Str.ofString "one") 489, PySem.Value.str (PySem.Str.ofString "other") 490, PySem.Value.str (PySem.Str.ofString "to") 491, PySem.Value.str (PySem.Str.ofString "value") 492, PySem.Value.str (PySem.Str.ofString "segment") 493, PySem.Value.str (PySem.Str.ofString "begin") 494, PySem.Value.str (PySem.Str.ofString "many") 495, PySem.Value.str (PySem.Str.ofString "fault") 496] }) ::
  (nat_lit 215, { cls := PySem.Value.type "tuple", data := PySem.Data.seq #[] }) ::
  (nat_lit 217, { cls := PySem.Value.type "code", data := PySem.Data.fields #[PySem.Value.str (PySem.Str.ofString "_law_told") 485, PySem.Value.str (PySem.Str.ofString "_law_told") 486, PySem.Value.str (PySem.Str.ofString "/claim/cut.py") 487, PySem.Value.int 101 0, PySem.Value.int 8 0, PySem.Value.int 0 0, PySem.Value.int 0 0, PySem.Value.int 3 0, PySem.Value.ref 212, PySem.Value.bool Bool.true, PySem.Value.int 181 0, PySem.Value.ref 213, PySem.Value.none, PySem.Value.ref 214, PySem.Value.ref 215, PySem.Value.ref 216, PySem.Value.int 497 0, PySem.Value.int 101 0, PySem.Value.str (PySem.Str.ofString "/claim/cut.py") 498] }) ::
  (nat_lit 218, { cls := PySem.Value.type "function", data := PySem.Data.func { name := PySem.Str.ofString "_law_told", qualname := PySem.Str.ofString "_law_told", params := (sArgs (fnAt 19)), body := (PySem.FuncBody.stmts (sBody (fnAt 19))), scope := (sScope (fnAt 19)), globals := 3, closure := [], defaults := PySem.Value.none, kwdefaults := PySem.Value.none, pyModule := PySem.Value.str (PySem.Str.ofString "law_nm0113_01") 451, code := PySem.Value.ref 217 } }) ::
  (nat_lit 219, { cls := PySem.Value.type "tuple", data := PySem.Data.seq #[] }) ::
  (nat_lit 221, { cls := PySem.Value.type "tuple", data := PySem.Data.seq #[PySem.Value.str (PySem.Str.ofString "op") 503, PySem.Value.str (PySem.Str.ofString "value") 504, PySem.Value.str (PySem.Str.ofString "row") 505, PySem.Value.str (PySem.Str.ofString "other") 506, PySem.Value.str (PySem.Str.ofString "segment") 507] }) ::
  (nat_lit 222, { cls := PySem.Value.type "tuple", data := PySem.Data.seq #[] }) ::
  (nat_lit 224, { cls := PySem.Value.type "code", data := PySem.Data.fields #[PySem.Value.str (PySem.Str.ofString "_law_source") 500, PySem.Value.str (PySem.Str.ofString "_law_source") 501, PySem.Value.str (PySem.Str.ofString "/claim/cut.py") 502, PySem.Value.int 118 0, PySem.Value.int 5 0, PySem.Value.int 0 0, PySem.Value.int 0 0, PySem.Value.int 3 0, PySem.Value.ref 219, PySem.Value.bool Bool.true, PySem.Value.int 181 0, PySem.Value.ref 220, PySem.Value.none, PySem.Value.ref 221, PySem.Value.ref 222, PySem.Value.ref 223, PySem.Value.int 508 0, PySem.Value.int 118 0, PySem.Value.str (PySem.Str.ofString "/claim/cut.py") 509] }) ::
  (nat_lit 225, { cls := PySem.Value.type "function", data := PySem.Data.func { name := PySem.Str.ofString "_law_source", qualname := PySem.Str.ofString "_law_source", params := (sArgs (fnAt 20)), body := (PySem.FuncBody.stmts (sBody (fnAt 20))), scope := (sScope (fnAt 20)), globals := 3, closure := [], defaults := PySem.Value.none, kwdefaults := PySem.Value.none, pyModule := PySem.Value.str (PySem.Str.ofString "law_nm0113_01") 451, code := PySem.Value.ref 224 } }) ::
  (nat_lit 226, { cls := PySem.Value.type "tuple", data := PySem.Data.seq #[] }) ::
  (nat_lit 228, { cls := PySem.Value.type "tuple", data := PySem.Data.seq #[PySem.Value.str (PySem.Str.ofString "kind") 514, PySem.Value.str (PySem.Str.ofString "least") 515, PySem.Value.str (PySem.Str.ofString "sizes") 516, PySem.Value.str (PySem.Str.ofString "fault") 517] }) ::
  (nat_lit 229, { cls := PySem.Value.type "tuple", data := PySem.Data.seq #[] }) ::
  (nat_lit 231, { cls := PySem.Value.type "code", data := PySem.Data.fields #[PySem.Value.str (PySem.Str.ofString "_law_is_refused") 511, PySem.Value.str (PySem.Str.ofString "_law_is_refused") 512, PySem.Value.str (PySem.Str.ofString "/claim/cut.py") 513, PySem.Value.int 124 0, PySem.Value.int 3 0, PySem.Value.int 0 0, PySem.Value.int 0 0, PySem.Value.int 3 0, PySem.Value.ref 226, PySem.Value.bool Bool.true, PySem.Value.int 181 0, PySem.Value.ref 227, PySem.Value.none, PySem.Value.ref 228, PySem.Value.ref 229, PySem.Value.ref 230, PySem.Value.int 518 0, PySem.Value.int 124 0, PySem.Value.str (PySem.Str.ofString "/claim/cut.py") 519] }) ::
  (nat_lit 232, { cls := PySem.Value.type "function", data := PySem.Data.func { name := PySem.Str.ofString "_law_is_refused", qualname := PySem.Str.ofString "_law_is_refused", params := (sArgs (fnAt 21)), body := (PySem.FuncBody.stmts (sBody (fnAt 21))), scope := (sScope (fnAt 21)), globals := 3, closure := [], defaults := PySem.Value.none, kwdefaults := PySem.Value.none, pyModule := PySem.Value.str (PySem.Str.ofString "law_nm0113_01") 451, code := PySem.Value.ref 231 } }) ::
  (nat_lit 233, { cls := PySem.Value.type "tuple", data := PySem.Data.seq #[] }) ::
  (nat_lit 235, { cls := PySem.Value.type "tuple", data := PySem.Data.seq #[PySem.Value.str (PySem.Str.ofString "tables") 524, PySem.Value.str (PySem.Str.ofString "rows") 525, PySem.Value.str (PySem.Str.ofString "kinds") 526, PySem.Value.str (PySem.Str.ofString "mosts") 527, PySem.Value.str (PySem.Str.ofString "j") 528] }) ::
  (nat_lit 236, { cls := PySem.Value.type "tuple", data := PySem.Data.seq #[] }) ::
  (nat_lit 238, { cls := PySem.Value.type "code", data := PySem.Data.fields #[PySem.Value.str (PySem.Str.ofString "_law_is_same") 521, PySem.Value.str (PySem.Str.ofString "_law_is_same") 522, PySem.Value.str (PySem.Str.ofString "/claim/cut.py") 523, PySem.Value.int 130 0, PySem.Value.int 4 0, PySem.Value.int 0 0, PySem.Value.int 0 0, PySem.Value.int 3 0, PySem.Value.ref 233, PySem.Value.bool Bool.true, PySem.Value.int 181 0, PySem.Value.ref 234, PySem.Value.none, PySem.Value.ref 235, PySem.Value.ref 236, PySem.Value.ref 237, PySem.Value.int 529 0, PySem.Value.int 130 0, PySem.Value.str (PySem.Str.ofString "/claim/cut.py") 530] }) ::
  (nat_lit 239, { cls := PySem.Value.type "function", data := PySem.Data.func { name := PySem.Str.ofString "_law_is_same", qualname := PySem.Str.ofString "_law_is_same", params := (sArgs (fnAt 22)), body := (PySem.FuncBody.stmts (sBody (fnAt 22))), scope := (sScope (fnAt 22)), globals := 3, closure := [], defaults := PySem.Value.none, kwdefaults := PySem.Value.none, pyModule := PySem.Value.str (PySem.Str.ofString "law_nm0113_01") 451, code := PySem.Value.ref 238 } }) ::
  (nat_lit 240, { cls := PySem.Value.type "tuple", data := PySem.Data.seq #[] }) ::
  (nat_lit 243, { cls := PySem.Value.type "code", data := PySem.Data.fields #[PySem.Value.str (PySem.Str.ofString "law") 532, PySem.Value.str (PySem.Str.ofString "law") 533, PySem.Value.str (PySem.Str.ofString "/claim/cut.py") 534, PySem.Value.int 137 0, PySem.Value.int 1 0, PySem.Value.int 0 0, PySem.Value.int 0 0, PySem.Value.int 3 0, PySem.Value.ref 240, PySem.Value.bool Bool.true, PySem.Value.int 181 0, PySem.Value.ref 241, PySem.Value.none, PySem.Value.none, PySem.Value.none, PySem.Value.ref 242, PySem.Value.int 535 0, PySem.Value.int 137 0, PySem.Value.str (PySem.Str.ofString "/claim/cut.py") 536] }) ::
  (nat_lit 244, { cls := PySem.Value.type "function", data := PySem.Data.func { name := PySem.Str.ofString "law", qualname := PySem.Str.ofString "law", params := (sArgs (fnAt 23)), body := (PySem.FuncBody.stmts (sBody (fnAt 23))), scope := (sScope (fnAt 23)), globals := 3, closure := [], defaults := PySem.Value.none, kwdefaults := PySem.Value.none, pyModule := PySem.Value.str (PySem.Str.ofString "law_nm0113_01") 451, code := PySem.Value.ref 243 } }) :: []
noncomputable def hd.keys : List Nat := [2, 3, 15, 22, 24, 25, 27, 28, 29, 30, 31, 32, 35, 42, 43, 44, 47, 54, 55, 56, 59, 61, 62, 64, 65, 66, 68, 69, 71, 72, 80, 82, 83, 85, 86, 87, 89, 90, 92, 93, 94, 96, 97, 99, 100, 101, 103, 104, 106, 107, 108, 110, 111, 113, 114, 115, 117, 118, 120, 121, 122, 124, 125, 127, 128, 129, 131, 132, 134, 135, 136, 138, 139, 141, 142, 143, 145, 146, 148, 149, 150, 152, 153, 155, 156, 157, 158, 159, 160, 161, 171, 172, 174, 175, 177, 178, 179, 180, 181, 182, 183, 186, 188, 189, 191, 192, 193, 195, 196, 198, 199, 200, 202, 203, 205, 206, 207, 210, 211, 212, 214, 215, 217, 218, 219, 221, 222, 224, 225, 226, 228, 229, 231, 232, 233, 235, 236, 238, 239, 240, 243, 244]
noncomputable def hd.view_39 : Program := { PySem.Challenge.rw_nm0113_01.row.prog with main := { PySem.Challenge.rw_nm0113_01.row.prog.main with body := [sAt 1, sAt 2, sAt 3, sAt 5, sAt 6, sAt 7, sAt 8, sAt 9, sAt 11, sAt 12, sAt 13, sAt 15, sAt 16, sAt 17, sAt 18, sAt 19, sAt 20, sAt 21, sAt 22, sAt 23] } }
end
section
noncomputable def hd.o_49 : Params → Obj := fun P => { cls := PySem.Value.none, data := PySem.Data.dict #[{ hash := PySem.PyData.keyHash P (PySem.Str.ofString "type.__subclasses__.Exception.0"), key := PySem.Value.str (PySem.Str.ofString "type.__subclasses__.Exception.0") 214, val := PySem.Value.int 31 0 }, { hash := PySem.PyData.keyHash P (PySem.Str.ofString "type.__subclasses__.Exception.n"), key := PySem.Value.str (PySem.Str.ofString "type.__subclasses__.Exception.n") 215, val := PySem.Value.int 1 0 }] 2 }
noncomputable def hd.o_87 : Params → Obj := fun P => { cls := PySem.Value.type "dict", data := PySem.Data.dict #[{ hash := PySem.PyData.keyHash P (PySem.Str.ofString "__name__"), key := PySem.Value.str (PySem.Str.ofString "__name__") 165, val := PySem.Value.str (PySem.Str.ofString "wasmcore.store") 250 }, { hash := PySem.PyData.keyHash P (PySem.Str.ofString "__doc__"), key := PySem.Value.str (PySem.Str.ofString "__doc__") 166, val := PySem.Value.none }, { hash := PySem.PyData.keyHash P (PySem.Str.ofString "__package__"), key := PySem.Value.str (PySem.Str.ofString "__package__") 167, val := PySem.Value.none }, { hash := PySem.PyData.keyHash P (PySem.Str.ofString "__loader__"), key := PySem.Value.str (PySem.Str.ofString "__loader__") 168, val := PySem.Value.builtin "__main__.__loader__#opaque" }, { hash := PySem.PyData.keyHash P (PySem.Str.ofString "__spec__"), key := PySem.Value.str (PySem.Str.ofString "__spec__") 169, val := PySem.Value.none }, { hash := PySem.PyData.keyHash P (PySem.Str.ofString "__annotations__"), key := PySem.Value.str (PySem.Str.ofString "__annotations__") 170, val := PySem.Value.ref 6 }, { hash := PySem.PyData.keyHash P (PySem.Str.ofString "__builtins__"), key := PySem.Value.str (PySem.Str.ofString "__builtins__") 171, val := PySem.Value.ref 4 }, { hash := PySem.PyData.keyHash P (PySem.Str.ofString "__file__"), key := PySem.Value.str (PySem.Str.ofString "__file__") 173, val := PySem.Value.str (PySem.Str.ofString "/claim/cut.py") 172 }, { hash := PySem.PyData.keyHash P (PySem.Str.ofString "__cached__"), key := PySem.Value.str (PySem.Str.ofString "__cached__") 174, val := PySem.Value.none }, { hash := PySem.PyData.keyHash P (PySem.Str.ofString "WasmFault"), key := PySem.Value.str (PySem.Str.ofString "WasmFault") 217, val := PySem.Value.ref 31 }, { hash := PySem.PyData.keyHash P (PySem.Str.ofString "Trap"), key := PySem.Value.str (PySem.Str.ofString "Trap") 233, val := PySem.Value.ref 44 }, { hash := PySem.PyData.keyHash P (PySem.Str.ofString "Misused"), key := PySem.Value.str (PySem.Str.ofString "Misused") 249, val := PySem.Value.ref 56 }, { hash := PySem.PyData.keyHash P (PySem.Str.ofString "REFUSED"), key := PySem.Value.str (PySem.Str.ofString "REFUSED") 253, val := PySem.Value.int 4294967295 252 }, { hash := PySem.PyData.keyHash P (PySem.Str.ofString "OUTSIDE_TABLE"), key := PySem.Value.str (PySem.Str.ofString "OUTSIDE_TABLE") 255, val := PySem.Value.str (PySem.Str.ofString "out of bounds table access") 254 }, { hash := PySem.PyData.keyHash P (PySem.Str.ofString "want_within"), key := PySem.Value.str (PySem.Str.ofString "want_within") 265, val := PySem.Value.ref 65 }, { hash := PySem.PyData.keyHash P (PySem.Str.ofString "grown"), key := PySem.Value.str (PySem.Str.ofString "grown") 276, val := PySem.Value.ref 72 }] 16 }
noncomputable def hd.o_43 : Params → Obj := fun P => { cls := PySem.Value.type "tuple", data := PySem.Data.seq #[] }
noncomputable def hd.o_88 : Params → Obj := fun P => { cls := PySem.Value.none, data := PySem.Data.fields #[PySem.Value.int 2 0, PySem.Value.int 0 0, PySem.Value.ref 20, PySem.Value.int 7 0, PySem.Value.int 0 0, PySem.Value.ref 40, PySem.Value.int 9 0, PySem.Value.int 0 0, PySem.Value.ref 52, PySem.Value.int 14 0, PySem.Value.int 0 0, PySem.Value.ref 64, PySem.Value.int 17 0, PySem.Value.int 0 0, PySem.Value.ref 71] }
noncomputable def hd.o_45 : Params → Obj := fun P => { cls := PySem.Value.type "code", data := PySem.Data.fields #[PySem.Value.str (PySem.Str.ofString "<module>") 182, PySem.Value.str (PySem.Str.ofString "<module>") 183, PySem.Value.str (PySem.Str.ofString "/claim/cut.py") 184, PySem.Value.int 1 0, PySem.Value.int 0 0, PySem.Value.int 0 0, PySem.Value.int 0 0, PySem.Value.int 0 0, PySem.Value.ref 11, PySem.Value.bool Bool.false, PySem.Value.int 181 0, PySem.Value.ref 12, PySem.Value.none, PySem.Value.none, PySem.Value.none, PySem.Value.none, PySem.Value.int 185 0, PySem.Value.int 1 0, PySem.Value.str (PySem.Str.ofString "/claim/cut.py") 186] }
noncomputable def hd.o_46 : Params → Obj := fun P => { cls := PySem.Value.type "frame", slots := #[Option.some (PySem.Value.ref 13), Option.some (PySem.Value.ref 3), Option.some (PySem.Value.ref 3), Option.none, Option.some (PySem.Value.str (PySem.Str.ofString "__main__") 164), Option.none, Option.some (PySem.Value.ref 0)] }
noncomputable def hd.o_52 : Params → Obj := fun P => { cls := PySem.Value.type "tuple", data := PySem.Data.seq #[PySem.Value.type "Exception"] }
noncomputable def hd.o_53 : Params → Obj := fun P => { cls := PySem.Value.type "builtin_function_or_method", data := PySem.Data.fields #[PySem.Value.builtin "type.__prepare__", PySem.Value.type "type"] }
noncomputable def hd.o_54 : Params → Obj := fun P => { cls := PySem.Value.type "dict", data := PySem.Data.dict #[{ hash := PySem.PyData.keyHash P (PySem.Str.ofString "__module__"), key := PySem.Value.str (PySem.Str.ofString "__module__") 196, val := PySem.Value.str (PySem.Str.ofString "wasmcore.faults") 187 }, { hash := PySem.PyData.keyHash P (PySem.Str.ofString "__qualname__"), key := PySem.Value.str (PySem.Str.ofString "__qualname__") 198, val := PySem.Value.str (PySem.Str.ofString "WasmFault") 197 }, { hash := PySem.PyData.keyHash P (PySem.Str.ofString "__firstlineno__"), key := PySem.Value.str (PySem.Str.ofString "__firstlineno__") 200, val := PySem.Value.int 2 199 }, { hash := PySem.PyData.keyHash P (PySem.Str.ofString "__init__"), key := PySem.Value.str (PySem.Str.ofString "__init__") 208, val := PySem.Value.ref 28 }, { hash := PySem.PyData.keyHash P (PySem.Str.ofString "__static_attributes__"), key := PySem.Value.str (PySem.Str.ofString "__static_attributes__") 210, val := PySem.Value.ref 29 }] 5 }
noncomputable def hd.o_55 : Params → Obj := fun P => { cls := PySem.Value.type "tuple", data := PySem.Data.seq #[] }
noncomputable def hd.o_56 : Params → Obj := fun P => { cls := PySem.Value.none, data := PySem.Data.fields #[PySem.Value.int 4 0, PySem.Value.int 4 0, PySem.Value.ref 27] }
noncomputable def hd.o_57 : Params → Obj := fun P => { cls := PySem.Value.type "code", data := PySem.Data.fields #[PySem.Value.str (PySem.Str.ofString "WasmFault") 191, PySem.Value.str (PySem.Str.ofString "WasmFault") 192, PySem.Value.str (PySem.Str.ofString "/claim/cut.py") 193, PySem.Value.int 2 0, PySem.Value.int 0 0, PySem.Value.int 0 0, PySem.Value.int 0 0, PySem.Value.int 0 0, PySem.Value.ref 18, PySem.Value.bool Bool.false, PySem.Value.int 181 0, PySem.Value.ref 19, PySem.Value.none, PySem.Value.none, PySem.Value.none, PySem.Value.none, PySem.Value.int 194 0, PySem.Value.int 2 0, PySem.Value.str (PySem.Str.ofString "/claim/cut.py") 195] }
noncomputable def hd.o_58 : Params → Obj := fun P => { cls := PySem.Value.type "frame", slots := #[Option.some (PySem.Value.ref 20), Option.some (PySem.Value.ref 3), Option.some (PySem.Value.ref 17), Option.none, Option.some (PySem.Value.str (PySem.Str.ofString "wasmcore.faults") 187), Option.none, Option.some (PySem.Value.ref 0)] }
noncomputable def hd.o_59 : Params → Obj := fun P => { cls := PySem.Value.type "tuple", data := PySem.Data.seq #[] }
noncomputable def hd.o_60 : Params → Obj := fun P => { cls := PySem.Value.none, data := PySem.Data.fields #[] }
noncomputable def hd.o_61 : Params → Obj := fun P => { cls := PySem.Value.type "tuple", data := PySem.Data.seq #[PySem.Value.str (PySem.Str.ofString "self") 204, PySem.Value.str (PySem.Str.ofString "why") 205] }
noncomputable def hd.o_62 : Params → Obj := fun P => { cls := PySem.Value.type "tuple", data := PySem.Data.seq #[] }
noncomputable def hd.o_63 : Params → Obj := fun P => { cls := PySem.Value.none, data := PySem.Data.func { name := PySem.Str.ofString "__init__", qualname := PySem.Str.ofString "WasmFault.__init__", params := (sArgs (mtAt 1 0)), body := (PySem.FuncBody.stmts (sBody (mtAt 1 0))), scope := (sScope (mtAt 1 0)), globals := 0, closure := [], defaults := PySem.Value.none, kwdefaults := PySem.Value.none } }
noncomputable def hd.o_64 : Params → Obj := fun P => { cls := PySem.Value.type "code", data := PySem.Data.fields #[PySem.Value.str (PySem.Str.ofString "__init__") 201, PySem.Value.str (PySem.Str.ofString "WasmFault.__init__") 202, PySem.Value.str (PySem.Str.ofString "/claim/cut.py") 203, PySem.Value.int 4 0, PySem.Value.int 2 0, PySem.Value.int 0 0, PySem.Value.int 0 0, PySem.Value.int 3 0, PySem.Value.ref 22, PySem.Value.bool Bool.true, PySem.Value.int 181 0, PySem.Value.ref 23, PySem.Value.none, PySem.Value.ref 24, PySem.Value.ref 25, PySem.Value.ref 26, PySem.Value.int 206 0, PySem.Value.int 4 0, PySem.Value.str (PySem.Str.ofString "/claim/cut.py") 207] }
noncomputable def hd.o_65 : Params → Obj := fun P => { cls := PySem.Value.type "function", data := PySem.Data.func { name := PySem.Str.ofString "__init__", qualname := PySem.Str.ofString "WasmFault.__init__", params := (sArgs (mtAt 1 0)), body := (PySem.FuncBody.stmts (sBody (mtAt 1 0))), scope := (sScope (mtAt 1 0)), globals := 3, closure := [], defaults := PySem.Value.none, kwdefaults := PySem.Value.none, pyModule := PySem.Value.str (PySem.Str.ofString "wasmcore.faults") 187, code := PySem.Value.ref 27 } }
noncomputable def hd.o_66 : Params → Obj := fun P => { cls := PySem.Value.type "tuple", data := PySem.Data.seq #[PySem.Value.str (PySem.Str.ofString "why") 209] }
noncomputable def hd.o_67 : Params → Obj := fun P => { cls := PySem.Value.type "dict", data := PySem.Data.dict #[{ hash := PySem.PyData.keyHash P (PySem.Str.ofString "__module__"), key := PySem.Value.str (PySem.Str.ofString "__module__") 196, val := PySem.Value.str (PySem.Str.ofString "wasmcore.faults") 187 }, { hash := PySem.PyData.keyHash P (PySem.Str.ofString "__firstlineno__"), key := PySem.Value.str (PySem.Str.ofString "__firstlineno__") 200, val := PySem.Value.int 2 199 }, { hash := PySem.PyData.keyHash P (PySem.Str.ofString "__init__"), key := PySem.Value.str (PySem.Str.ofString "__init__") 208, val := PySem.Value.ref 28 }, { hash := PySem.PyData.keyHash P (PySem.Str.ofString "__static_attributes__"), key := PySem.Value.str (PySem.Str.ofString "__static_attributes__") 210, val := PySem.Value.ref 29 }, { hash := PySem.PyData.keyHash P (PySem.Str.ofString "__weakref__"), key := PySem.Value.str (PySem.Str.ofString "__weakref__") 212, val := PySem.Value.ref 32 }, { hash := PySem.PyData.keyHash P (PySem.Str.ofString "__doc__"), key := PySem.Value.str (PySem.Str.ofString "__doc__") 213, val := PySem.Value.none }] 3 }
noncomputable def hd.o_89 : Params → Obj := fun P => { cls := PySem.Value.type "type", data := PySem.Data.cls { name := PySem.Str.ofString "WasmFault", bases := [PySem.Value.type "Exception"], mro := [PySem.Value.ref 31, PySem.Value.type "Exception", PySem.Value.type "BaseException", PySem.Value.type "object"], ns := 30, qualname := PySem.Str.ofString "WasmFault", subclasses := [PySem.Value.ref 44, PySem.Value.ref 56] }, slots := #[Option.some (PySem.Value.ref 15), Option.none, Option.some (PySem.Value.str (PySem.Str.ofString "WasmFault") 189), Option.some (PySem.Value.str (PySem.Str.ofString "WasmFault") 197), Option.some (PySem.Value.builtin "Exception.__new__"), Option.some (PySem.Value.bool Bool.true)] }
noncomputable def hd.o_69 : Params → Obj := fun P => { cls := PySem.Value.type "getset_descriptor", data := PySem.Data.fields #[PySem.Value.str (PySem.Str.ofString "__weakref__") 211, PySem.Value.ref 31, PySem.Value.builtin "ExceptionGroup.__weakref__", PySem.Value.none] }
noncomputable def hd.o_70 : Params → Obj := fun P => { cls := PySem.Value.type "super", data := PySem.Data.fields #[PySem.Value.ref 31, PySem.Value.ref 31, PySem.Value.ref 31] }
noncomputable def hd.o_71 : Params → Obj := fun P => { cls := PySem.Value.type "builtin_function_or_method", data := PySem.Data.fields #[PySem.Value.builtin "object.__init_subclass__", PySem.Value.ref 31] }
noncomputable def hd.o_75 : Params → Obj := fun P => { cls := PySem.Value.type "tuple", data := PySem.Data.seq #[PySem.Value.ref 31] }
noncomputable def hd.o_76 : Params → Obj := fun P => { cls := PySem.Value.type "builtin_function_or_method", data := PySem.Data.fields #[PySem.Value.builtin "type.__prepare__", PySem.Value.type "type"] }
noncomputable def hd.o_77 : Params → Obj := fun P => { cls := PySem.Value.type "dict", data := PySem.Data.dict #[{ hash := PySem.PyData.keyHash P (PySem.Str.ofString "__module__"), key := PySem.Value.str (PySem.Str.ofString "__module__") 225, val := PySem.Value.str (PySem.Str.ofString "wasmcore.faults") 187 }, { hash := PySem.PyData.keyHash P (PySem.Str.ofString "__qualname__"), key := PySem.Value.str (PySem.Str.ofString "__qualname__") 227, val := PySem.Value.str (PySem.Str.ofString "Trap") 226 }, { hash := PySem.PyData.keyHash P (PySem.Str.ofString "__firstlineno__"), key := PySem.Value.str (PySem.Str.ofString "__firstlineno__") 229, val := PySem.Value.int 7 228 }, { hash := PySem.PyData.keyHash P (PySem.Str.ofString "__static_attributes__"), key := PySem.Value.str (PySem.Str.ofString "__static_attributes__") 230, val := PySem.Value.ref 42 }] 4 }
noncomputable def hd.o_78 : Params → Obj := fun P => { cls := PySem.Value.type "tuple", data := PySem.Data.seq #[] }
noncomputable def hd.o_79 : Params → Obj := fun P => { cls := PySem.Value.none, data := PySem.Data.fields #[] }
noncomputable def hd.o_80 : Params → Obj := fun P => { cls := PySem.Value.type "code", data := PySem.Data.fields #[PySem.Value.str (PySem.Str.ofString "Trap") 220, PySem.Value.str (PySem.Str.ofString "Trap") 221, PySem.Value.str (PySem.Str.ofString "/claim/cut.py") 222, PySem.Value.int 7 0, PySem.Value.int 0 0, PySem.Value.int 0 0, PySem.Value.int 0 0, PySem.Value.int 0 0, PySem.Value.ref 38, PySem.Value.bool Bool.false, PySem.Value.int 181 0, PySem.Value.ref 39, PySem.Value.none, PySem.Value.none, PySem.Value.none, PySem.Value.none, PySem.Value.int 223 0, PySem.Value.int 7 0, PySem.Value.str (PySem.Str.ofString "/claim/cut.py") 224] }
noncomputable def hd.o_81 : Params → Obj := fun P => { cls := PySem.Value.type "frame", slots := #[Option.some (PySem.Value.ref 40), Option.some (PySem.Value.ref 3), Option.some (PySem.Value.ref 37), Option.none, Option.some (PySem.Value.str (PySem.Str.ofString "wasmcore.faults") 187), Option.none, Option.some (PySem.Value.ref 0)] }
noncomputable def hd.o_82 : Params → Obj := fun P => { cls := PySem.Value.type "tuple", data := PySem.Data.seq #[] }
noncomputable def hd.o_83 : Params → Obj := fun P => { cls := PySem.Value.type "dict", data := PySem.Data.dict #[{ hash := PySem.PyData.keyHash P (PySem.Str.ofString "__module__"), key := PySem.Value.str (PySem.Str.ofString "__module__") 225, val := PySem.Value.str (PySem.Str.ofString "wasmcore.faults") 187 }, { hash := PySem.PyData.keyHash P (PySem.Str.ofString "__firstlineno__"), key := PySem.Value.str (PySem.Str.ofString "__firstlineno__") 229, val := PySem.Value.int 7 228 }, { hash := PySem.PyData.keyHash P (PySem.Str.ofString "__static_attributes__"), key := PySem.Value.str (PySem.Str.ofString "__static_attributes__") 230, val := PySem.Value.ref 42 }, { hash := PySem.PyData.keyHash P (PySem.Str.ofString "__doc__"), key := PySem.Value.str (PySem.Str.ofString "__doc__") 231, val := PySem.Value.none }] 2 }
noncomputable def hd.o_84 : Params → Obj := fun P => { cls := PySem.Value.type "type", data := PySem.Data.cls { name := PySem.Str.ofString "Trap", bases := [PySem.Value.ref 31], mro := [PySem.Value.ref 44, PySem.Value.ref 31, PySem.Value.type "Exception", PySem.Value.type "BaseException", PySem.Value.type "object"], ns := 43, qualname := PySem.Str.ofString "Trap" }, slots := #[Option.some (PySem.Value.ref 35), Option.none, Option.some (PySem.Value.str (PySem.Str.ofString "Trap") 218), Option.some (PySem.Value.str (PySem.Str.ofString "Trap") 226), Option.some (PySem.Value.builtin "Exception.__new__"), Option.some (PySem.Value.bool Bool.true)] }
noncomputable def hd.o_85 : Params → Obj := fun P => { cls := PySem.Value.type "super", data := PySem.Data.fields #[PySem.Value.ref 44, PySem.Value.ref 44, PySem.Value.ref 44] }
noncomputable def hd.o_86 : Params → Obj := fun P => { cls := PySem.Value.type "builtin_function_or_method", data := PySem.Data.fields #[PySem.Value.builtin "object.__init_subclass__", PySem.Value.ref 44] }
noncomputable def hd.o_90 : Params → Obj := fun P => { cls := PySem.Value.type "tuple", data := PySem.Data.seq #[PySem.Value.ref 31] }
noncomputable def hd.o_91 : Params → Obj := fun P => { cls := PySem.Value.type "builtin_function_or_method", data := PySem.Data.fields #[PySem.Value.builtin "type.__prepare__", PySem.Value.type "type"] }
noncomputable def hd.o_92 : Params → Obj := fun P => { cls := PySem.Value.type "dict", data := PySem.Data.dict #[{ hash := PySem.PyData.keyHash P (PySem.Str.ofString "__module__"), key := PySem.Value.str (PySem.Str.ofString "__module__") 241, val := PySem.Value.str (PySem.Str.ofString "wasmcore.faults") 187 }, { hash := PySem.PyData.keyHash P (PySem.Str.ofString "__qualname__"), key := PySem.Value.str (PySem.Str.ofString "__qualname__") 243, val := PySem.Value.str (PySem.Str.ofString "Misused") 242 }, { hash := PySem.PyData.keyHash P (PySem.Str.ofString "__firstlineno__"), key := PySem.Value.str (PySem.Str.ofString "__firstlineno__") 245, val := PySem.Value.int 9 244 }, { hash := PySem.PyData.keyHash P (PySem.Str.ofString "__static_attributes__"), key := PySem.Value.str (PySem.Str.ofString "__static_attributes__") 246, val := PySem.Value.ref 54 }] 4 }
noncomputable def hd.o_93 : Params → Obj := fun P => { cls := PySem.Value.type "tuple", data := PySem.Data.seq #[] }
noncomputable def hd.o_94 : Params → Obj := fun P => { cls := PySem.Value.none, data := PySem.Data.fields #[] }
noncomputable def hd.o_95 : Params → Obj := fun P => { cls := PySem.Value.type "code", data := PySem.Data.fields #[PySem.Value.str (PySem.Str.ofString "Misused") 236, PySem.Value.str (PySem.Str.ofString "Misused") 237, PySem.Value.str (PySem.Str.ofString "/claim/cut.py") 238, PySem.Value.int 9 0, PySem.Value.int 0 0, PySem.Value.int 0 0, PySem.Value.int 0 0, PySem.Value.int 0 0, PySem.Value.ref 50, PySem.Value.bool Bool.false, PySem.Value.int 181 0, PySem.Value.ref 51, PySem.Value.none, PySem.Value.none, PySem.Value.none, PySem.Value.none, PySem.Value.int 239 0, PySem.Value.int 9 0, PySem.Value.str (PySem.Str.ofString "/claim/cut.py") 240] }
noncomputable def hd.o_96 : Params → Obj := fun P => { cls := PySem.Value.type "frame", slots := #[Option.some (PySem.Value.ref 52), Option.some (PySem.Value.ref 3), Option.some (PySem.Value.ref 49), Option.none, Option.some (PySem.Value.str (PySem.Str.ofString "wasmcore.faults") 187), Option.none, Option.some (PySem.Value.ref 0)] }
noncomputable def hd.o_97 : Params → Obj := fun P => { cls := PySem.Value.type "tuple", data := PySem.Data.seq #[] }
noncomputable def hd.o_98 : Params → Obj := fun P => { cls := PySem.Value.type "dict", data := PySem.Data.dict #[{ hash := PySem.PyData.keyHash P (PySem.Str.ofString "__module__"), key := PySem.Value.str (PySem.Str.ofString "__module__") 241, val := PySem.Value.str (PySem.Str.ofString "wasmcore.faults") 187 }, { hash := PySem.PyData.keyHash P (PySem.Str.ofString "__firstlineno__"), key := PySem.Value.str (PySem.Str.ofString "__firstlineno__") 245, val := PySem.Value.int 9 244 }, { hash := PySem.PyData.keyHash P (PySem.Str.ofString "__static_attributes__"), key := PySem.Value.str (PySem.Str.ofString "__static_attributes__") 246, val := PySem.Value.ref 54 }, { hash := PySem.PyData.keyHash P (PySem.Str.ofString "__doc__"), key := PySem.Value.str (PySem.Str.ofString "__doc__") 247, val := PySem.Value.none }] 2 }
noncomputable def hd.o_99 : Params → Obj := fun P => { cls := PySem.Value.type "type", data := PySem.Data.cls { name := PySem.Str.ofString "Misused", bases := [PySem.Value.ref 31], mro := [PySem.Value.ref 56, PySem.Value.ref 31, PySem.Value.type "Exception", PySem.Value.type "BaseException", PySem.Value.type "object"], ns := 55, qualname := PySem.Str.ofString "Misused" }, slots := #[Option.some (PySem.Value.ref 47), Option.none, Option.some (PySem.Value.str (PySem.Str.ofString "Misused") 234), Option.some (PySem.Value.str (PySem.Str.ofString "Misused") 242), Option.some (PySem.Value.builtin "Exception.__new__"), Option.some (PySem.Value.bool Bool.true)] }
noncomputable def hd.o_100 : Params → Obj := fun P => { cls := PySem.Value.type "super", data := PySem.Data.fields #[PySem.Value.ref 56, PySem.Value.ref 56, PySem.Value.ref 56] }
noncomputable def hd.o_101 : Params → Obj := fun P => { cls := PySem.Value.type "builtin_function_or_method", data := PySem.Data.fields #[PySem.Value.builtin "object.__init_subclass__", PySem.Value.ref 56] }
noncomputable def hd.o_102 : Params → Obj := fun P => { cls := PySem.Value.type "tuple", data := PySem.Data.seq #[] }
noncomputable def hd.o_103 : Params → Obj := fun P => { cls := PySem.Value.none, data := PySem.Data.fields #[] }
noncomputable def hd.o_104 : Params → Obj := fun P => { cls := PySem.Value.type "tuple", data := PySem.Data.seq #[PySem.Value.str (PySem.Str.ofString "at") 259, PySem.Value.str (PySem.Str.ofString "many") 260, PySem.Value.str (PySem.Str.ofString "size") 261, PySem.Value.str (PySem.Str.ofString "why") 262] }
noncomputable def hd.o_105 : Params → Obj := fun P => { cls := PySem.Value.type "tuple", data := PySem.Data.seq #[] }
noncomputable def hd.o_106 : Params → Obj := fun P => { cls := PySem.Value.none, data := PySem.Data.func { name := PySem.Str.ofString "want_within", qualname := PySem.Str.ofString "want_within", params := (sArgs (fnAt 7)), body := (PySem.FuncBody.stmts (sBody (fnAt 7))), scope := (sScope (fnAt 7)), globals := 0, closure := [], defaults := PySem.Value.none, kwdefaults := PySem.Value.none } }
noncomputable def hd.o_107 : Params → Obj := fun P => { cls := PySem.Value.type "code", data := PySem.Data.fields #[PySem.Value.str (PySem.Str.ofString "want_within") 256, PySem.Value.str (PySem.Str.ofString "want_within") 257, PySem.Value.str (PySem.Str.ofString "/claim/cut.py") 258, PySem.Value.int 14 0, PySem.Value.int 4 0, PySem.Value.int 0 0, PySem.Value.int 0 0, PySem.Value.int 3 0, PySem.Value.ref 59, PySem.Value.bool Bool.true, PySem.Value.int 181 0, PySem.Value.ref 60, PySem.Value.none, PySem.Value.ref 61, PySem.Value.ref 62, PySem.Value.ref 63, PySem.Value.int 263 0, PySem.Value.int 14 0, PySem.Value.str (PySem.Str.ofString "/claim/cut.py") 264] }
noncomputable def hd.o_108 : Params → Obj := fun P => { cls := PySem.Value.type "function", data := PySem.Data.func { name := PySem.Str.ofString "want_within", qualname := PySem.Str.ofString "want_within", params := (sArgs (fnAt 7)), body := (PySem.FuncBody.stmts (sBody (fnAt 7))), scope := (sScope (fnAt 7)), globals := 3, closure := [], defaults := PySem.Value.none, kwdefaults := PySem.Value.none, pyModule := PySem.Value.str (PySem.Str.ofString "wasmcore.store") 250, code := PySem.Value.ref 64 } }
noncomputable def hd.o_109 : Params → Obj := fun P => { cls := PySem.Value.type "tuple", data := PySem.Data.seq #[] }
noncomputable def hd.o_110 : Params → Obj := fun P => { cls := PySem.Value.none, data := PySem.Data.fields #[] }
noncomputable def hd.o_111 : Params → Obj := fun P => { cls := PySem.Value.type "tuple", data := PySem.Data.seq #[PySem.Value.str (PySem.Str.ofString "size") 269, PySem.Value.str (PySem.Str.ofString "more") 270, PySem.Value.str (PySem.Str.ofString "most") 271, PySem.Value.str (PySem.Str.ofString "greatest") 272, PySem.Value.str (PySem.Str.ofString "found") 273] }
noncomputable def hd.o_112 : Params → Obj := fun P => { cls := PySem.Value.type "tuple", data := PySem.Data.seq #[] }
noncomputable def hd.o_113 : Params → Obj := fun P => { cls := PySem.Value.none, data := PySem.Data.func { name := PySem.Str.ofString "grown", qualname := PySem.Str.ofString "grown", params := (sArgs (fnAt 8)), body := (PySem.FuncBody.stmts (sBody (fnAt 8))), scope := (sScope (fnAt 8)), globals := 0, closure := [], defaults := PySem.Value.none, kwdefaults := PySem.Value.none } }
noncomputable def hd.o_114 : Params → Obj := fun P => { cls := PySem.Value.type "code", data := PySem.Data.fields #[PySem.Value.str (PySem.Str.ofString "grown") 266, PySem.Value.str (PySem.Str.ofString "grown") 267, PySem.Value.str (PySem.Str.ofString "/claim/cut.py") 268, PySem.Value.int 17 0, PySem.Value.int 4 0, PySem.Value.int 0 0, PySem.Value.int 0 0, PySem.Value.int 3 0, PySem.Value.ref 66, PySem.Value.bool Bool.true, PySem.Value.int 181 0, PySem.Value.ref 67, PySem.Value.none, PySem.Value.ref 68, PySem.Value.ref 69, PySem.Value.ref 70, PySem.Value.int 274 0, PySem.Value.int 17 0, PySem.Value.str (PySem.Str.ofString "/claim/cut.py") 275] }
noncomputable def hd.o_115 : Params → Obj := fun P => { cls := PySem.Value.type "function", data := PySem.Data.func { name := PySem.Str.ofString "grown", qualname := PySem.Str.ofString "grown", params := (sArgs (fnAt 8)), body := (PySem.FuncBody.stmts (sBody (fnAt 8))), scope := (sScope (fnAt 8)), globals := 3, closure := [], defaults := PySem.Value.none, kwdefaults := PySem.Value.none, pyModule := PySem.Value.str (PySem.Str.ofString "wasmcore.store") 250, code := PySem.Value.ref 71 } }
noncomputable def hd.o_116 : Params → Obj := fun P => { cls := PySem.Value.type "dict", data := PySem.Data.dict #[{ hash := PySem.PyData.keyHash P (PySem.Str.ofString "__name__"), key := PySem.Value.str (PySem.Str.ofString "__name__") 165, val := PySem.Value.str (PySem.Str.ofString "wasmcore.store") 250 }, { hash := PySem.PyData.keyHash P (PySem.Str.ofString "__doc__"), key := PySem.Value.str (PySem.Str.ofString "__doc__") 166, val := PySem.Value.none }, { hash := PySem.PyData.keyHash P (PySem.Str.ofString "__package__"), key := PySem.Value.str (PySem.Str.ofString "__package__") 167, val := PySem.Value.none }, { hash := PySem.PyData.keyHash P (PySem.Str.ofString "__loader__"), key := PySem.Value.str (PySem.Str.ofString "__loader__") 168, val := PySem.Value.builtin "__main__.__loader__#opaque" }, { hash := PySem.PyData.keyHash P (PySem.Str.ofString "__spec__"), key := PySem.Value.str (PySem.Str.ofString "__spec__") 169, val := PySem.Value.none }, { hash := PySem.PyData.keyHash P (PySem.Str.ofString "__annotations__"), key := PySem.Value.str (PySem.Str.ofString "__annotations__") 170, val := PySem.Value.ref 6 }, { hash := PySem.PyData.keyHash P (PySem.Str.ofString "__builtins__"), key := PySem.Value.str (PySem.Str.ofString "__builtins__") 171, val := PySem.Value.ref 4 }, { hash := PySem.PyData.keyHash P (PySem.Str.ofString "__file__"), key := PySem.Value.str (PySem.Str.ofString "__file__") 173, val := PySem.Value.str (PySem.Str.ofString "/claim/cut.py") 172 }, { hash := PySem.PyData.keyHash P (PySem.Str.ofString "__cached__"), key := PySem.Value.str (PySem.Str.ofString "__cached__") 174, val := PySem.Value.none }, { hash := PySem.PyData.keyHash P (PySem.Str.ofString "WasmFault"), key := PySem.Value.str (PySem.Str.ofString "WasmFault") 217, val := PySem.Value.ref 31 }, { hash := PySem.PyData.keyHash P (PySem.Str.ofString "Trap"), key := PySem.Value.str (PySem.Str.ofString "Trap") 233, val := PySem.Value.ref 44 }, { hash := PySem.PyData.keyHash P (PySem.Str.ofString "Misused"), key := PySem.Value.str (PySem.Str.ofString "Misused") 249, val := PySem.Value.ref 56 }, { hash := PySem.PyData.keyHash P (PySem.Str.ofString "REFUSED"), key := PySem.Value.str (PySem.Str.ofString "REFUSED") 253, val := PySem.Value.int 4294967295 252 }, { hash := PySem.PyData.keyHash P (PySem.Str.ofString "OUTSIDE_TABLE"), key := PySem.Value.str (PySem.Str.ofString "OUTSIDE_TABLE") 255, val := PySem.Value.str (PySem.Str.ofString "out of bounds table access") 254 }, { hash := PySem.PyData.keyHash P (PySem.Str.ofString "want_within"), key := PySem.Value.str (PySem.Str.ofString "want_within") 265, val := PySem.Value.ref 65 }, { hash := PySem.PyData.keyHash P (PySem.Str.ofString "grown"), key := PySem.Value.str (PySem.Str.ofString "grown") 276, val := PySem.Value.ref 72 }, { hash := PySem.PyData.keyHash P (PySem.Str.ofString "Table"), key := PySem.Value.str (PySem.Str.ofString "Table") 401, val := PySem.Value.ref 159 }] 17 }
noncomputable def hd.o_117 : Params → Obj := fun P => { cls := PySem.Value.none, data := PySem.Data.fields #[PySem.Value.int 2 0, PySem.Value.int 0 0, PySem.Value.ref 20, PySem.Value.int 7 0, PySem.Value.int 0 0, PySem.Value.ref 40, PySem.Value.int 9 0, PySem.Value.int 0 0, PySem.Value.ref 52, PySem.Value.int 14 0, PySem.Value.int 0 0, PySem.Value.ref 64, PySem.Value.int 17 0, PySem.Value.int 0 0, PySem.Value.ref 71, PySem.Value.int 22 0, PySem.Value.int 0 0, PySem.Value.ref 78] }
noncomputable def hd.o_118 : Params → Obj := fun P => { cls := PySem.Value.type "tuple", data := PySem.Data.seq #[] }
noncomputable def hd.o_119 : Params → Obj := fun P => { cls := PySem.Value.type "builtin_function_or_method", data := PySem.Data.fields #[PySem.Value.builtin "type.__prepare__", PySem.Value.type "type"] }
noncomputable def hd.o_120 : Params → Obj := fun P => { cls := PySem.Value.type "dict", data := PySem.Data.dict #[{ hash := PySem.PyData.keyHash P (PySem.Str.ofString "__module__"), key := PySem.Value.str (PySem.Str.ofString "__module__") 284, val := PySem.Value.str (PySem.Str.ofString "wasmcore.store") 250 }, { hash := PySem.PyData.keyHash P (PySem.Str.ofString "__qualname__"), key := PySem.Value.str (PySem.Str.ofString "__qualname__") 286, val := PySem.Value.str (PySem.Str.ofString "Table") 285 }, { hash := PySem.PyData.keyHash P (PySem.Str.ofString "__firstlineno__"), key := PySem.Value.str (PySem.Str.ofString "__firstlineno__") 288, val := PySem.Value.int 22 287 }, { hash := PySem.PyData.keyHash P (PySem.Str.ofString "__init__"), key := PySem.Value.str (PySem.Str.ofString "__init__") 299, val := PySem.Value.ref 86 }, { hash := PySem.PyData.keyHash P (PySem.Str.ofString "size"), key := PySem.Value.str (PySem.Str.ofString "size") 306, val := PySem.Value.ref 93 }, { hash := PySem.PyData.keyHash P (PySem.Str.ofString "table_kind"), key := PySem.Value.str (PySem.Str.ofString "table_kind") 313, val := PySem.Value.ref 100 }, { hash := PySem.PyData.keyHash P (PySem.Str.ofString "want"), key := PySem.Value.str (PySem.Str.ofString "want") 322, val := PySem.Value.ref 107 }, { hash := PySem.PyData.keyHash P (PySem.Str.ofString "get"), key := PySem.Value.str (PySem.Str.ofString "get") 330, val := PySem.Value.ref 114 }, { hash := PySem.PyData.keyHash P (PySem.Str.ofString "put"), key := PySem.Value.str (PySem.Str.ofString "put") 339, val := PySem.Value.ref 121 }, { hash := PySem.PyData.keyHash P (PySem.Str.ofString "grow"), key := PySem.Value.str (PySem.Str.ofString "grow") 349, val := PySem.Value.ref 128 }, { hash := PySem.PyData.keyHash P (PySem.Str.ofString "fill"), key := PySem.Value.str (PySem.Str.ofString "fill") 359, val := PySem.Value.ref 135 }, { hash := PySem.PyData.keyHash P (PySem.Str.ofString "copy"), key := PySem.Value.str (PySem.Str.ofString "copy") 370, val := PySem.Value.ref 142 }, { hash := PySem.PyData.keyHash P (PySem.Str.ofString "init"), key := PySem.Value.str (PySem.Str.ofString "init") 382, val := PySem.Value.ref 149 }, { hash := PySem.PyData.keyHash P (PySem.Str.ofString "plain"), key := PySem.Value.str (PySem.Str.ofString "plain") 389, val := PySem.Value.ref 156 }, { hash := PySem.PyData.keyHash P (PySem.Str.ofString "__static_attributes__"), key := PySem.Value.str (PySem.Str.ofString "__static_attributes__") 394, val := PySem.Value.ref 157 }] 15 }
noncomputable def hd.o_121 : Params → Obj := fun P => { cls := PySem.Value.type "tuple", data := PySem.Data.seq #[] }
noncomputable def hd.o_122 : Params → Obj := fun P => { cls := PySem.Value.none, data := PySem.Data.fields #[PySem.Value.int 24 0, PySem.Value.int 4 0, PySem.Value.ref 85, PySem.Value.int 32 0, PySem.Value.int 4 0, PySem.Value.ref 92, PySem.Value.int 35 0, PySem.Value.int 4 0, PySem.Value.ref 99, PySem.Value.int 38 0, PySem.Value.int 4 0, PySem.Value.ref 106, PySem.Value.int 41 0, PySem.Value.int 4 0, PySem.Value.ref 113, PySem.Value.int 45 0, PySem.Value.int 4 0, PySem.Value.ref 120, PySem.Value.int 49 0, PySem.Value.int 4 0, PySem.Value.ref 127, PySem.Value.int 56 0, PySem.Value.int 4 0, PySem.Value.ref 134, PySem.Value.int 60 0, PySem.Value.int 4 0, PySem.Value.ref 141, PySem.Value.int 65 0, PySem.Value.int 4 0, PySem.Value.ref 148, PySem.Value.int 71 0, PySem.Value.int 4 0, PySem.Value.ref 155] }
noncomputable def hd.o_123 : Params → Obj := fun P => { cls := PySem.Value.type "code", data := PySem.Data.fields #[PySem.Value.str (PySem.Str.ofString "Table") 279, PySem.Value.str (PySem.Str.ofString "Table") 280, PySem.Value.str (PySem.Str.ofString "/claim/cut.py") 281, PySem.Value.int 22 0, PySem.Value.int 0 0, PySem.Value.int 0 0, PySem.Value.int 0 0, PySem.Value.int 0 0, PySem.Value.ref 76, PySem.Value.bool Bool.false, PySem.Value.int 181 0, PySem.Value.ref 77, PySem.Value.none, PySem.Value.none, PySem.Value.none, PySem.Value.none, PySem.Value.int 282 0, PySem.Value.int 22 0, PySem.Value.str (PySem.Str.ofString "/claim/cut.py") 283] }
noncomputable def hd.o_124 : Params → Obj := fun P => { cls := PySem.Value.type "frame", slots := #[Option.some (PySem.Value.ref 78), Option.some (PySem.Value.ref 3), Option.some (PySem.Value.ref 75), Option.none, Option.some (PySem.Value.str (PySem.Str.ofString "wasmcore.store") 250), Option.none, Option.some (PySem.Value.ref 0)] }
noncomputable def hd.o_125 : Params → Obj := fun P => { cls := PySem.Value.type "tuple", data := PySem.Data.seq #[] }
noncomputable def hd.o_126 : Params → Obj := fun P => { cls := PySem.Value.none, data := PySem.Data.fields #[] }
noncomputable def hd.o_127 : Params → Obj := fun P => { cls := PySem.Value.type "tuple", data := PySem.Data.seq #[PySem.Value.str (PySem.Str.ofString "self") 292, PySem.Value.str (PySem.Str.ofString "kind") 293, PySem.Value.str (PySem.Str.ofString "least") 294, PySem.Value.str (PySem.Str.ofString "most") 295, PySem.Value.str (PySem.Str.ofString "sizes") 296] }
noncomputable def hd.o_128 : Params → Obj := fun P => { cls := PySem.Value.type "tuple", data := PySem.Data.seq #[] }
noncomputable def hd.o_129 : Params → Obj := fun P => { cls := PySem.Value.none, data := PySem.Data.func { name := PySem.Str.ofString "__init__", qualname := PySem.Str.ofString "Table.__init__", params := (sArgs (mtAt 9 0)), body := (PySem.FuncBody.stmts (sBody (mtAt 9 0))), scope := (sScope (mtAt 9 0)), globals := 0, closure := [], defaults := PySem.Value.none, kwdefaults := PySem.Value.none } }
noncomputable def hd.o_130 : Params → Obj := fun P => { cls := PySem.Value.type "code", data := PySem.Data.fields #[PySem.Value.str (PySem.Str.ofString "__init__") 289, PySem.Value.str (PySem.Str.ofString "Table.__init__") 290, PySem.Value.str (PySem.Str.ofString "/claim/cut.py") 291, PySem.Value.int 24 0, PySem.Value.int 5 0, PySem.Value.int 0 0, PySem.Value.int 0 0, PySem.Value.int 3 0, PySem.Value.ref 80, PySem.Value.bool Bool.true, PySem.Value.int 181 0, PySem.Value.ref 81, PySem.Value.none, PySem.Value.ref 82, PySem.Value.ref 83, PySem.Value.ref 84, PySem.Value.int 297 0, PySem.Value.int 24 0, PySem.Value.str (PySem.Str.ofString "/claim/cut.py") 298] }
noncomputable def hd.o_131 : Params → Obj := fun P => { cls := PySem.Value.type "function", data := PySem.Data.func { name := PySem.Str.ofString "__init__", qualname := PySem.Str.ofString "Table.__init__", params := (sArgs (mtAt 9 0)), body := (PySem.FuncBody.stmts (sBody (mtAt 9 0))), scope := (sScope (mtAt 9 0)), globals := 3, closure := [], defaults := PySem.Value.none, kwdefaults := PySem.Value.none, pyModule := PySem.Value.str (PySem.Str.ofString "wasmcore.store") 250, code := PySem.Value.ref 85 } }
noncomputable def hd.o_132 : Params → Obj := fun P => { cls := PySem.Value.type "tuple", data := PySem.Data.seq #[] }
noncomputable def hd.o_133 : Params → Obj := fun P => { cls := PySem.Value.none, data := PySem.Data.fields #[] }
noncomputable def hd.o_134 : Params → Obj := fun P => { cls := PySem.Value.type "tuple", data := PySem.Data.seq #[PySem.Value.str (PySem.Str.ofString "self") 303] }
noncomputable def hd.o_135 : Params → Obj := fun P => { cls := PySem.Value.type "tuple", data := PySem.Data.seq #[] }
noncomputable def hd.o_136 : Params → Obj := fun P => { cls := PySem.Value.none, data := PySem.Data.func { name := PySem.Str.ofString "size", qualname := PySem.Str.ofString "Table.size", params := (sArgs (mtAt 9 1)), body := (PySem.FuncBody.stmts (sBody (mtAt 9 1))), scope := (sScope (mtAt 9 1)), globals := 0, closure := [], defaults := PySem.Value.none, kwdefaults := PySem.Value.none } }
noncomputable def hd.o_137 : Params → Obj := fun P => { cls := PySem.Value.type "code", data := PySem.Data.fields #[PySem.Value.str (PySem.Str.ofString "size") 300, PySem.Value.str (PySem.Str.ofString "Table.size") 301, PySem.Value.str (PySem.Str.ofString "/claim/cut.py") 302, PySem.Value.int 32 0, PySem.Value.int 1 0, PySem.Value.int 0 0, PySem.Value.int 0 0, PySem.Value.int 3 0, PySem.Value.ref 87, PySem.Value.bool Bool.true, PySem.Value.int 181 0, PySem.Value.ref 88, PySem.Value.none, PySem.Value.ref 89, PySem.Value.ref 90, PySem.Value.ref 91, PySem.Value.int 304 0, PySem.Value.int 32 0, PySem.Value.str (PySem.Str.ofString "/claim/cut.py") 305] }
noncomputable def hd.o_138 : Params → Obj := fun P => { cls := PySem.Value.type "function", data := PySem.Data.func { name := PySem.Str.ofString "size", qualname := PySem.Str.ofString "Table.size", params := (sArgs (mtAt 9 1)), body := (PySem.FuncBody.stmts (sBody (mtAt 9 1))), scope := (sScope (mtAt 9 1)), globals := 3, closure := [], defaults := PySem.Value.none, kwdefaults := PySem.Value.none, pyModule := PySem.Value.str (PySem.Str.ofString "wasmcore.store") 250, code := PySem.Value.ref 92 } }
noncomputable def hd.o_139 : Params → Obj := fun P => { cls := PySem.Value.type "tuple", data := PySem.Data.seq #[] }
noncomputable def hd.o_140 : Params → Obj := fun P => { cls := PySem.Value.none, data := PySem.Data.fields #[] }
noncomputable def hd.o_141 : Params → Obj := fun P => { cls := PySem.Value.type "tuple", data := PySem.Data.seq #[PySem.Value.str (PySem.Str.ofString "self") 310] }
noncomputable def hd.o_142 : Params → Obj := fun P => { cls := PySem.Value.type "tuple", data := PySem.Data.seq #[] }
noncomputable def hd.o_143 : Params → Obj := fun P => { cls := PySem.Value.none, data := PySem.Data.func { name := PySem.Str.ofString "table_kind", qualname := PySem.Str.ofString "Table.table_kind", params := (sArgs (mtAt 9 2)), body := (PySem.FuncBody.stmts (sBody (mtAt 9 2))), scope := (sScope (mtAt 9 2)), globals := 0, closure := [], defaults := PySem.Value.none, kwdefaults := PySem.Value.none } }
noncomputable def hd.o_144 : Params → Obj := fun P => { cls := PySem.Value.type "code", data := PySem.Data.fields #[PySem.Value.str (PySem.Str.ofString "table_kind") 307, PySem.Value.str (PySem.Str.ofString "Table.table_kind") 308, PySem.Value.str (PySem.Str.ofString "/claim/cut.py") 309, PySem.Value.int 35 0, PySem.Value.int 1 0, PySem.Value.int 0 0, PySem.Value.int 0 0, PySem.Value.int 3 0, PySem.Value.ref 94, PySem.Value.bool Bool.true, PySem.Value.int 181 0, PySem.Value.ref 95, PySem.Value.none, PySem.Value.ref 96, PySem.Value.ref 97, PySem.Value.ref 98, PySem.Value.int 311 0, PySem.Value.int 35 0, PySem.Value.str (PySem.Str.ofString "/claim/cut.py") 312] }
noncomputable def hd.o_145 : Params → Obj := fun P => { cls := PySem.Value.type "function", data := PySem.Data.func { name := PySem.Str.ofString "table_kind", qualname := PySem.Str.ofString "Table.table_kind", params := (sArgs (mtAt 9 2)), body := (PySem.FuncBody.stmts (sBody (mtAt 9 2))), scope := (sScope (mtAt 9 2)), globals := 3, closure := [], defaults := PySem.Value.none, kwdefaults := PySem.Value.none, pyModule := PySem.Value.str (PySem.Str.ofString "wasmcore.store") 250, code := PySem.Value.ref 99 } }
noncomputable def hd.o_146 : Params → Obj := fun P => { cls := PySem.Value.type "tuple", data := PySem.Data.seq #[] }
noncomputable def hd.o_147 : Params → Obj := fun P => { cls := PySem.Value.none, data := PySem.Data.fields #[] }
noncomputable def hd.o_148 : Params → Obj := fun P => { cls := PySem.Value.type "tuple", data := PySem.Data.seq #[PySem.Value.str (PySem.Str.ofString "self") 317, PySem.Value.str (PySem.Str.ofString "at") 318, PySem.Value.str (PySem.Str.ofString "many") 319] }
noncomputable def hd.o_149 : Params → Obj := fun P => { cls := PySem.Value.type "tuple", data := PySem.Data.seq #[] }
noncomputable def hd.o_150 : Params → Obj := fun P => { cls := PySem.Value.none, data := PySem.Data.func { name := PySem.Str.ofString "want", qualname := PySem.Str.ofString "Table.want", params := (sArgs (mtAt 9 3)), body := (PySem.FuncBody.stmts (sBody (mtAt 9 3))), scope := (sScope (mtAt 9 3)), globals := 0, closure := [], defaults := PySem.Value.none, kwdefaults := PySem.Value.none } }
noncomputable def hd.o_151 : Params → Obj := fun P => { cls := PySem.Value.type "code", data := PySem.Data.fields #[PySem.Value.str (PySem.Str.ofString "want") 314, PySem.Value.str (PySem.Str.ofString "Table.want") 315, PySem.Value.str (PySem.Str.ofString "/claim/cut.py") 316, PySem.Value.int 38 0, PySem.Value.int 3 0, PySem.Value.int 0 0, PySem.Value.int 0 0, PySem.Value.int 3 0, PySem.Value.ref 101, PySem.Value.bool Bool.true, PySem.Value.int 181 0, PySem.Value.ref 102, PySem.Value.none, PySem.Value.ref 103, PySem.Value.ref 104, PySem.Value.ref 105, PySem.Value.int 320 0, PySem.Value.int 38 0, PySem.Value.str (PySem.Str.ofString "/claim/cut.py") 321] }
noncomputable def hd.o_152 : Params → Obj := fun P => { cls := PySem.Value.type "function", data := PySem.Data.func { name := PySem.Str.ofString "want", qualname := PySem.Str.ofString "Table.want", params := (sArgs (mtAt 9 3)), body := (PySem.FuncBody.stmts (sBody (mtAt 9 3))), scope := (sScope (mtAt 9 3)), globals := 3, closure := [], defaults := PySem.Value.none, kwdefaults := PySem.Value.none, pyModule := PySem.Value.str (PySem.Str.ofString "wasmcore.store") 250, code := PySem.Value.ref 106 } }
noncomputable def hd.o_153 : Params → Obj := fun P => { cls := PySem.Value.type "tuple", data := PySem.Data.seq #[] }
noncomputable def hd.o_154 : Params → Obj := fun P => { cls := PySem.Value.none, data := PySem.Data.fields #[] }
noncomputable def hd.o_155 : Params → Obj := fun P => { cls := PySem.Value.type "tuple", data := PySem.Data.seq #[PySem.Value.str (PySem.Str.ofString "self") 326, PySem.Value.str (PySem.Str.ofString "at") 327] }
noncomputable def hd.o_156 : Params → Obj := fun P => { cls := PySem.Value.type "tuple", data := PySem.Data.seq #[] }
noncomputable def hd.o_157 : Params → Obj := fun P => { cls := PySem.Value.none, data := PySem.Data.func { name := PySem.Str.ofString "get", qualname := PySem.Str.ofString "Table.get", params := (sArgs (mtAt 9 4)), body := (PySem.FuncBody.stmts (sBody (mtAt 9 4))), scope := (sScope (mtAt 9 4)), globals := 0, closure := [], defaults := PySem.Value.none, kwdefaults := PySem.Value.none } }
noncomputable def hd.o_158 : Params → Obj := fun P => { cls := PySem.Value.type "code", data := PySem.Data.fields #[PySem.Value.str (PySem.Str.ofString "get") 323, PySem.Value.str (PySem.Str.ofString "Table.get") 324, PySem.Value.str (PySem.Str.ofString "/claim/cut.py") 325, PySem.Value.int 41 0, PySem.Value.int 2 0, PySem.Value.int 0 0, PySem.Value.int 0 0, PySem.Value.int 3 0, PySem.Value.ref 108, PySem.Value.bool Bool.true, PySem.Value.int 181 0, PySem.Value.ref 109, PySem.Value.none, PySem.Value.ref 110, PySem.Value.ref 111, PySem.Value.ref 112, PySem.Value.int 328 0, PySem.Value.int 41 0, PySem.Value.str (PySem.Str.ofString "/claim/cut.py") 329] }
noncomputable def hd.o_159 : Params → Obj := fun P => { cls := PySem.Value.type "function", data := PySem.Data.func { name := PySem.Str.ofString "get", qualname := PySem.Str.ofString "Table.get", params := (sArgs (mtAt 9 4)), body := (PySem.FuncBody.stmts (sBody (mtAt 9 4))), scope := (sScope (mtAt 9 4)), globals := 3, closure := [], defaults := PySem.Value.none, kwdefaults := PySem.Value.none, pyModule := PySem.Value.str (PySem.Str.ofString "wasmcore.store") 250, code := PySem.Value.ref 113 } }
noncomputable def hd.o_160 : Params → Obj := fun P => { cls := PySem.Value.type "tuple", data := PySem.Data.seq #[] }
noncomputable def hd.o_161 : Params → Obj := fun P => { cls := PySem.Value.none, data := PySem.Data.fields #[] }
noncomputable def hd.o_162 : Params → Obj := fun P => { cls := PySem.Value.type "tuple", data := PySem.Data.seq #[PySem.Value.str (PySem.Str.ofString "self") 334, PySem.Value.str (PySem.Str.ofString "at") 335, PySem.Value.str (PySem.Str.ofString "value") 336] }
noncomputable def hd.o_163 : Params → Obj := fun P => { cls := PySem.Value.type "tuple", data := PySem.Data.seq #[] }
noncomputable def hd.o_164 : Params → Obj := fun P => { cls := PySem.Value.none, data := PySem.Data.func { name := PySem.Str.ofString "put", qualname := PySem.Str.ofString "Table.put", params := (sArgs (mtAt 9 5)), body := (PySem.FuncBody.stmts (sBody (mtAt 9 5))), scope := (sScope (mtAt 9 5)), globals := 0, closure := [], defaults := PySem.Value.none, kwdefaults := PySem.Value.none } }
noncomputable def hd.o_165 : Params → Obj := fun P => { cls := PySem.Value.type "code", data := PySem.Data.fields #[PySem.Value.str (PySem.Str.ofString "put") 331, PySem.Value.str (PySem.Str.ofString "Table.put") 332, PySem.Value.str (PySem.Str.ofString "/claim/cut.py") 333, PySem.Value.int 45 0, PySem.Value.int 3 0, PySem.Value.int 0 0, PySem.Value.int 0 0, PySem.Value.int 3 0, PySem.Value.ref 115, PySem.Value.bool Bool.true, PySem.Value.int 181 0, PySem.Value.ref 116, PySem.Value.none, PySem.Value.ref 117, PySem.Value.ref 118, PySem.Value.ref 119, PySem.Value.int 337 0, PySem.Value.int 45 0, PySem.Value.str (PySem.Str.ofString "/claim/cut.py") 338] }
noncomputable def hd.o_166 : Params → Obj := fun P => { cls := PySem.Value.type "function", data := PySem.Data.func { name := PySem.Str.ofString "put", qualname := PySem.Str.ofString "Table.put", params := (sArgs (mtAt 9 5)), body := (PySem.FuncBody.stmts (sBody (mtAt 9 5))), scope := (sScope (mtAt 9 5)), globals := 3, closure := [], defaults := PySem.Value.none, kwdefaults := PySem.Value.none, pyModule := PySem.Value.str (PySem.Str.ofString "wasmcore.store") 250, code := PySem.Value.ref 120 } }
noncomputable def hd.o_167 : Params → Obj := fun P => { cls := PySem.Value.type "tuple", data := PySem.Data.seq #[] }
noncomputable def hd.o_168 : Params → Obj := fun P => { cls := PySem.Value.none, data := PySem.Data.fields #[] }
noncomputable def hd.o_169 : Params → Obj := fun P => { cls := PySem.Value.type "tuple", data := PySem.Data.seq #[PySem.Value.str (PySem.Str.ofString "self") 343, PySem.Value.str (PySem.Str.ofString "more") 344, PySem.Value.str (PySem.Str.ofString "value") 345, PySem.Value.str (PySem.Str.ofString "old") 346] }
noncomputable def hd.o_170 : Params → Obj := fun P => { cls := PySem.Value.type "tuple", data := PySem.Data.seq #[] }
noncomputable def hd.o_171 : Params → Obj := fun P => { cls := PySem.Value.none, data := PySem.Data.func { name := PySem.Str.ofString "grow", qualname := PySem.Str.ofString "Table.grow", params := (sArgs (mtAt 9 6)), body := (PySem.FuncBody.stmts (sBody (mtAt 9 6))), scope := (sScope (mtAt 9 6)), globals := 0, closure := [], defaults := PySem.Value.none, kwdefaults := PySem.Value.none } }
noncomputable def hd.o_172 : Params → Obj := fun P => { cls := PySem.Value.type "code", data := PySem.Data.fields #[PySem.Value.str (PySem.Str.ofString "grow") 340, PySem.Value.str (PySem.Str.ofString "Table.grow") 341, PySem.Value.str (PySem.Str.ofString "/claim/cut.py") 342, PySem.Value.int 49 0, PySem.Value.int 3 0, PySem.Value.int 0 0, PySem.Value.int 0 0, PySem.Value.int 3 0, PySem.Value.ref 122, PySem.Value.bool Bool.true, PySem.Value.int 181 0, PySem.Value.ref 123, PySem.Value.none, PySem.Value.ref 124, PySem.Value.ref 125, PySem.Value.ref 126, PySem.Value.int 347 0, PySem.Value.int 49 0, PySem.Value.str (PySem.Str.ofString "/claim/cut.py") 348] }
noncomputable def hd.o_173 : Params → Obj := fun P => { cls := PySem.Value.type "function", data := PySem.Data.func { name := PySem.Str.ofString "grow", qualname := PySem.Str.ofString "Table.grow", params := (sArgs (mtAt 9 6)), body := (PySem.FuncBody.stmts (sBody (mtAt 9 6))), scope := (sScope (mtAt 9 6)), globals := 3, closure := [], defaults := PySem.Value.none, kwdefaults := PySem.Value.none, pyModule := PySem.Value.str (PySem.Str.ofString "wasmcore.store") 250, code := PySem.Value.ref 127 } }
noncomputable def hd.o_174 : Params → Obj := fun P => { cls := PySem.Value.type "tuple", data := PySem.Data.seq #[] }
noncomputable def hd.o_175 : Params → Obj := fun P => { cls := PySem.Value.none, data := PySem.Data.fields #[] }
noncomputable def hd.o_176 : Params → Obj := fun P => { cls := PySem.Value.type "tuple", data := PySem.Data.seq #[PySem.Value.str (PySem.Str.ofString "self") 353, PySem.Value.str (PySem.Str.ofString "at") 354, PySem.Value.str (PySem.Str.ofString "value") 355, PySem.Value.str (PySem.Str.ofString "many") 356] }
noncomputable def hd.o_177 : Params → Obj := fun P => { cls := PySem.Value.type "tuple", data := PySem.Data.seq #[] }
noncomputable def hd.o_178 : Params → Obj := fun P => { cls := PySem.Value.none, data := PySem.Data.func { name := PySem.Str.ofString "fill", qualname := PySem.Str.ofString "Table.fill", params := (sArgs (mtAt 9 7)), body := (PySem.FuncBody.stmts (sBody (mtAt 9 7))), scope := (sScope (mtAt 9 7)), globals := 0, closure := [], defaults := PySem.Value.none, kwdefaults := PySem.Value.none } }
noncomputable def hd.o_179 : Params → Obj := fun P => { cls := PySem.Value.type "code", data := PySem.Data.fields #[PySem.Value.str (PySem.Str.ofString "fill") 350, PySem.Value.str (PySem.Str.ofString "Table.fill") 351, PySem.Value.str (PySem.Str.ofString "/claim/cut.py") 352, PySem.Value.int 56 0, PySem.Value.int 4 0, PySem.Value.int 0 0, PySem.Value.int 0 0, PySem.Value.int 3 0, PySem.Value.ref 129, PySem.Value.bool Bool.true, PySem.Value.int 181 0, PySem.Value.ref 130, PySem.Value.none, PySem.Value.ref 131, PySem.Value.ref 132, PySem.Value.ref 133, PySem.Value.int 357 0, PySem.Value.int 56 0, PySem.Value.str (PySem.Str.ofString "/claim/cut.py") 358] }
noncomputable def hd.o_180 : Params → Obj := fun P => { cls := PySem.Value.type "function", data := PySem.Data.func { name := PySem.Str.ofString "fill", qualname := PySem.Str.ofString "Table.fill", params := (sArgs (mtAt 9 7)), body := (PySem.FuncBody.stmts (sBody (mtAt 9 7))), scope := (sScope (mtAt 9 7)), globals := 3, closure := [], defaults := PySem.Value.none, kwdefaults := PySem.Value.none, pyModule := PySem.Value.str (PySem.Str.ofString "wasmcore.store") 250, code := PySem.Value.ref 134 } }
noncomputable def hd.o_181 : Params → Obj := fun P => { cls := PySem.Value.type "tuple", data := PySem.Data.seq #[] }
noncomputable def hd.o_182 : Params → Obj := fun P => { cls := PySem.Value.none, data := PySem.Data.fields #[] }
noncomputable def hd.o_183 : Params → Obj := fun P => { cls := PySem.Value.type "tuple", data := PySem.Data.seq #[PySem.Value.str (PySem.Str.ofString "self") 363, PySem.Value.str (PySem.Str.ofString "to") 364, PySem.Value.str (PySem.Str.ofString "source") 365, PySem.Value.str (PySem.Str.ofString "begin") 366, PySem.Value.str (PySem.Str.ofString "many") 367] }
noncomputable def hd.o_184 : Params → Obj := fun P => { cls := PySem.Value.type "tuple", data := PySem.Data.seq #[] }
noncomputable def hd.o_185 : Params → Obj := fun P => { cls := PySem.Value.none, data := PySem.Data.func { name := PySem.Str.ofString "copy", qualname := PySem.Str.ofString "Table.copy", params := (sArgs (mtAt 9 8)), body := (PySem.FuncBody.stmts (sBody (mtAt 9 8))), scope := (sScope (mtAt 9 8)), globals := 0, closure := [], defaults := PySem.Value.none, kwdefaults := PySem.Value.none } }
noncomputable def hd.o_186 : Params → Obj := fun P => { cls := PySem.Value.type "code", data := PySem.Data.fields #[PySem.Value.str (PySem.Str.ofString "copy") 360, PySem.Value.str (PySem.Str.ofString "Table.copy") 361, PySem.Value.str (PySem.Str.ofString "/claim/cut.py") 362, PySem.Value.int 60 0, PySem.Value.int 5 0, PySem.Value.int 0 0, PySem.Value.int 0 0, PySem.Value.int 3 0, PySem.Value.ref 136, PySem.Value.bool Bool.true, PySem.Value.int 181 0, PySem.Value.ref 137, PySem.Value.none, PySem.Value.ref 138, PySem.Value.ref 139, PySem.Value.ref 140, PySem.Value.int 368 0, PySem.Value.int 60 0, PySem.Value.str (PySem.Str.ofString "/claim/cut.py") 369] }
noncomputable def hd.o_187 : Params → Obj := fun P => { cls := PySem.Value.type "function", data := PySem.Data.func { name := PySem.Str.ofString "copy", qualname := PySem.Str.ofString "Table.copy", params := (sArgs (mtAt 9 8)), body := (PySem.FuncBody.stmts (sBody (mtAt 9 8))), scope := (sScope (mtAt 9 8)), globals := 3, closure := [], defaults := PySem.Value.none, kwdefaults := PySem.Value.none, pyModule := PySem.Value.str (PySem.Str.ofString "wasmcore.store") 250, code := PySem.Value.ref 141 } }
noncomputable def hd.o_188 : Params → Obj := fun P => { cls := PySem.Value.type "tuple", data := PySem.Data.seq #[] }
noncomputable def hd.o_189 : Params → Obj := fun P => { cls := PySem.Value.none, data := PySem.Data.fields #[] }
noncomputable def hd.o_190 : Params → Obj := fun P => { cls := PySem.Value.type "tuple", data := PySem.Data.seq #[PySem.Value.str (PySem.Str.ofString "self") 374, PySem.Value.str (PySem.Str.ofString "at") 375, PySem.Value.str (PySem.Str.ofString "items") 376, PySem.Value.str (PySem.Str.ofString "begin") 377, PySem.Value.str (PySem.Str.ofString "many") 378, PySem.Value.str (PySem.Str.ofString "some") 379] }
noncomputable def hd.o_191 : Params → Obj := fun P => { cls := PySem.Value.type "tuple", data := PySem.Data.seq #[] }
noncomputable def hd.o_192 : Params → Obj := fun P => { cls := PySem.Value.none, data := PySem.Data.func { name := PySem.Str.ofString "init", qualname := PySem.Str.ofString "Table.init", params := (sArgs (mtAt 9 9)), body := (PySem.FuncBody.stmts (sBody (mtAt 9 9))), scope := (sScope (mtAt 9 9)), globals := 0, closure := [], defaults := PySem.Value.none, kwdefaults := PySem.Value.none } }
noncomputable def hd.o_193 : Params → Obj := fun P => { cls := PySem.Value.type "code", data := PySem.Data.fields #[PySem.Value.str (PySem.Str.ofString "init") 371, PySem.Value.str (PySem.Str.ofString "Table.init") 372, PySem.Value.str (PySem.Str.ofString "/claim/cut.py") 373, PySem.Value.int 65 0, PySem.Value.int 5 0, PySem.Value.int 0 0, PySem.Value.int 0 0, PySem.Value.int 3 0, PySem.Value.ref 143, PySem.Value.bool Bool.true, PySem.Value.int 181 0, PySem.Value.ref 144, PySem.Value.none, PySem.Value.ref 145, PySem.Value.ref 146, PySem.Value.ref 147, PySem.Value.int 380 0, PySem.Value.int 65 0, PySem.Value.str (PySem.Str.ofString "/claim/cut.py") 381] }
noncomputable def hd.o_194 : Params → Obj := fun P => { cls := PySem.Value.type "function", data := PySem.Data.func { name := PySem.Str.ofString "init", qualname := PySem.Str.ofString "Table.init", params := (sArgs (mtAt 9 9)), body := (PySem.FuncBody.stmts (sBody (mtAt 9 9))), scope := (sScope (mtAt 9 9)), globals := 3, closure := [], defaults := PySem.Value.none, kwdefaults := PySem.Value.none, pyModule := PySem.Value.str (PySem.Str.ofString "wasmcore.store") 250, code := PySem.Value.ref 148 } }
noncomputable def hd.o_195 : Params → Obj := fun P => { cls := PySem.Value.type "tuple", data := PySem.Data.seq #[] }
noncomputable def hd.o_196 : Params → Obj := fun P => { cls := PySem.Value.none, data := PySem.Data.fields #[] }
noncomputable def hd.o_197 : Params → Obj := fun P => { cls := PySem.Value.type "tuple", data := PySem.Data.seq #[PySem.Value.str (PySem.Str.ofString "self") 386] }
noncomputable def hd.o_198 : Params → Obj := fun P => { cls := PySem.Value.type "tuple", data := PySem.Data.seq #[] }
noncomputable def hd.o_199 : Params → Obj := fun P => { cls := PySem.Value.none, data := PySem.Data.func { name := PySem.Str.ofString "plain", qualname := PySem.Str.ofString "Table.plain", params := (sArgs (mtAt 9 10)), body := (PySem.FuncBody.stmts (sBody (mtAt 9 10))), scope := (sScope (mtAt 9 10)), globals := 0, closure := [], defaults := PySem.Value.none, kwdefaults := PySem.Value.none } }
noncomputable def hd.o_200 : Params → Obj := fun P => { cls := PySem.Value.type "code", data := PySem.Data.fields #[PySem.Value.str (PySem.Str.ofString "plain") 383, PySem.Value.str (PySem.Str.ofString "Table.plain") 384, PySem.Value.str (PySem.Str.ofString "/claim/cut.py") 385, PySem.Value.int 71 0, PySem.Value.int 1 0, PySem.Value.int 0 0, PySem.Value.int 0 0, PySem.Value.int 3 0, PySem.Value.ref 150, PySem.Value.bool Bool.true, PySem.Value.int 181 0, PySem.Value.ref 151, PySem.Value.none, PySem.Value.ref 152, PySem.Value.ref 153, PySem.Value.ref 154, PySem.Value.int 387 0, PySem.Value.int 71 0, PySem.Value.str (PySem.Str.ofString "/claim/cut.py") 388] }
noncomputable def hd.o_201 : Params → Obj := fun P => { cls := PySem.Value.type "function", data := PySem.Data.func { name := PySem.Str.ofString "plain", qualname := PySem.Str.ofString "Table.plain", params := (sArgs (mtAt 9 10)), body := (PySem.FuncBody.stmts (sBody (mtAt 9 10))), scope := (sScope (mtAt 9 10)), globals := 3, closure := [], defaults := PySem.Value.none, kwdefaults := PySem.Value.none, pyModule := PySem.Value.str (PySem.Str.ofString "wasmcore.store") 250, code := PySem.Value.ref 155 } }
noncomputable def hd.o_202 : Params → Obj := fun P => { cls := PySem.Value.type "tuple", data := PySem.Data.seq #[PySem.Value.str (PySem.Str.ofString "elements") 390, PySem.Value.str (PySem.Str.ofString "items") 391, PySem.Value.str (PySem.Str.ofString "kind") 392, PySem.Value.str (PySem.Str.ofString "most") 393] }
noncomputable def hd.o_203 : Params → Obj := fun P => { cls := PySem.Value.type "dict", data := PySem.Data.dict #[{ hash := PySem.PyData.keyHash P (PySem.Str.ofString "__module__"), key := PySem.Value.str (PySem.Str.ofString "__module__") 284, val := PySem.Value.str (PySem.Str.ofString "wasmcore.store") 250 }, { hash := PySem.PyData.keyHash P (PySem.Str.ofString "__firstlineno__"), key := PySem.Value.str (PySem.Str.ofString "__firstlineno__") 288, val := PySem.Value.int 22 287 }, { hash := PySem.PyData.keyHash P (PySem.Str.ofString "__init__"), key := PySem.Value.str (PySem.Str.ofString "__init__") 299, val := PySem.Value.ref 86 }, { hash := PySem.PyData.keyHash P (PySem.Str.ofString "size"), key := PySem.Value.str (PySem.Str.ofString "size") 306, val := PySem.Value.ref 93 }, { hash := PySem.PyData.keyHash P (PySem.Str.ofString "table_kind"), key := PySem.Value.str (PySem.Str.ofString "table_kind") 313, val := PySem.Value.ref 100 }, { hash := PySem.PyData.keyHash P (PySem.Str.ofString "want"), key := PySem.Value.str (PySem.Str.ofString "want") 322, val := PySem.Value.ref 107 }, { hash := PySem.PyData.keyHash P (PySem.Str.ofString "get"), key := PySem.Value.str (PySem.Str.ofString "get") 330, val := PySem.Value.ref 114 }, { hash := PySem.PyData.keyHash P (PySem.Str.ofString "put"), key := PySem.Value.str (PySem.Str.ofString "put") 339, val := PySem.Value.ref 121 }, { hash := PySem.PyData.keyHash P (PySem.Str.ofString "grow"), key := PySem.Value.str (PySem.Str.ofString "grow") 349, val := PySem.Value.ref 128 }, { hash := PySem.PyData.keyHash P (PySem.Str.ofString "fill"), key := PySem.Value.str (PySem.Str.ofString "fill") 359, val := PySem.Value.ref 135 }, { hash := PySem.PyData.keyHash P (PySem.Str.ofString "copy"), key := PySem.Value.str (PySem.Str.ofString "copy") 370, val := PySem.Value.ref 142 }, { hash := PySem.PyData.keyHash P (PySem.Str.ofString "init"), key := PySem.Value.str (PySem.Str.ofString "init") 382, val := PySem.Value.ref 149 }, { hash := PySem.PyData.keyHash P (PySem.Str.ofString "plain"), key := PySem.Value.str (PySem.Str.ofString "plain") 389, val := PySem.Value.ref 156 }, { hash := PySem.PyData.keyHash P (PySem.Str.ofString "__static_attributes__"), key := PySem.Value.str (PySem.Str.ofString "__static_attributes__") 394, val := PySem.Value.ref 157 }, { hash := PySem.PyData.keyHash P (PySem.Str.ofString "__dict__"), key := PySem.Value.str (PySem.Str.ofString "__dict__") 396, val := PySem.Value.ref 160 }, { hash := PySem.PyData.keyHash P (PySem.Str.ofString "__weakref__"), key := PySem.Value.str (PySem.Str.ofString "__weakref__") 398, val := PySem.Value.ref 161 }, { hash := PySem.PyData.keyHash P (PySem.Str.ofString "__doc__"), key := PySem.Value.str (PySem.Str.ofString "__doc__") 399, val := PySem.Value.none }] 4 }
noncomputable def hd.o_204 : Params → Obj := fun P => { cls := PySem.Value.type "type", data := PySem.Data.cls { name := PySem.Str.ofString "Table", bases := [PySem.Value.type "object"], mro := [PySem.Value.ref 159, PySem.Value.type "object"], ns := 158, qualname := PySem.Str.ofString "Table" }, slots := #[Option.none, Option.none, Option.some (PySem.Value.str (PySem.Str.ofString "Table") 277), Option.some (PySem.Value.str (PySem.Str.ofString "Table") 285), Option.some (PySem.Value.builtin "object.__new__"), Option.some (PySem.Value.bool Bool.true)] }
noncomputable def hd.o_205 : Params → Obj := fun P => { cls := PySem.Value.type "getset_descriptor", data := PySem.Data.fields #[PySem.Value.str (PySem.Str.ofString "__dict__") 395, PySem.Value.ref 159, PySem.Value.builtin "function.__dict__", PySem.Value.builtin "function.__dict__#set"] }
noncomputable def hd.o_206 : Params → Obj := fun P => { cls := PySem.Value.type "getset_descriptor", data := PySem.Data.fields #[PySem.Value.str (PySem.Str.ofString "__weakref__") 397, PySem.Value.ref 159, PySem.Value.builtin "ExceptionGroup.__weakref__", PySem.Value.none] }
noncomputable def hd.o_207 : Params → Obj := fun P => { cls := PySem.Value.type "super", data := PySem.Data.fields #[PySem.Value.ref 159, PySem.Value.ref 159, PySem.Value.ref 159] }
noncomputable def hd.o_208 : Params → Obj := fun P => { cls := PySem.Value.type "builtin_function_or_method", data := PySem.Data.fields #[PySem.Value.builtin "object.__init_subclass__", PySem.Value.ref 159] }
noncomputable def hd.o_209 : Params → Obj := fun P => { cls := PySem.Value.type "dict", data := PySem.Data.dict #[{ hash := PySem.PyData.keyHash P (PySem.Str.ofString "__name__"), key := PySem.Value.str (PySem.Str.ofString "__name__") 165, val := PySem.Value.str (PySem.Str.ofString "law_nm0113_01") 451 }, { hash := PySem.PyData.keyHash P (PySem.Str.ofString "__doc__"), key := PySem.Value.str (PySem.Str.ofString "__doc__") 166, val := PySem.Value.none }, { hash := PySem.PyData.keyHash P (PySem.Str.ofString "__package__"), key := PySem.Value.str (PySem.Str.ofString "__package__") 167, val := PySem.Value.none }, { hash := PySem.PyData.keyHash P (PySem.Str.ofString "__loader__"), key := PySem.Value.str (PySem.Str.ofString "__loader__") 168, val := PySem.Value.builtin "__main__.__loader__#opaque" }, { hash := PySem.PyData.keyHash P (PySem.Str.ofString "__spec__"), key := PySem.Value.str (PySem.Str.ofString "__spec__") 169, val := PySem.Value.none }, { hash := PySem.PyData.keyHash P (PySem.Str.ofString "__annotations__"), key := PySem.Value.str (PySem.Str.ofString "__annotations__") 170, val := PySem.Value.ref 6 }, { hash := PySem.PyData.keyHash P (PySem.Str.ofString "__builtins__"), key := PySem.Value.str (PySem.Str.ofString "__builtins__") 171, val := PySem.Value.ref 4 }, { hash := PySem.PyData.keyHash P (PySem.Str.ofString "__file__"), key := PySem.Value.str (PySem.Str.ofString "__file__") 173, val := PySem.Value.str (PySem.Str.ofString "/claim/cut.py") 172 }, { hash := PySem.PyData.keyHash P (PySem.Str.ofString "__cached__"), key := PySem.Value.str (PySem.Str.ofString "__cached__") 174, val := PySem.Value.none }, { hash := PySem.PyData.keyHash P (PySem.Str.ofString "WasmFault"), key := PySem.Value.str (PySem.Str.ofString "WasmFault") 217, val := PySem.Value.ref 31 }, { hash := PySem.PyData.keyHash P (PySem.Str.ofString "Trap"), key := PySem.Value.str (PySem.Str.ofString "Trap") 233, val := PySem.Value.ref 44 }, { hash := PySem.PyData.keyHash P (PySem.Str.ofString "Misused"), key := PySem.Value.str (PySem.Str.ofString "Misused") 249, val := PySem.Value.ref 56 }, { hash := PySem.PyData.keyHash P (PySem.Str.ofString "REFUSED"), key := PySem.Value.str (PySem.Str.ofString "REFUSED") 253, val := PySem.Value.int 4294967295 252 }, { hash := PySem.PyData.keyHash P (PySem.Str.ofString "OUTSIDE_TABLE"), key := PySem.Value.str (PySem.Str.ofString "OUTSIDE_TABLE") 255, val := PySem.Value.str (PySem.Str.ofString "out of bounds table access") 254 }, { hash := PySem.PyData.keyHash P (PySem.Str.ofString "want_within"), key := PySem.Value.str (PySem.Str.ofString "want_within") 265, val := PySem.Value.ref 65 }, { hash := PySem.PyData.keyHash P (PySem.Str.ofString "grown"), key := PySem.Value.str (PySem.Str.ofString "grown") 276, val := PySem.Value.ref 72 }, { hash := PySem.PyData.keyHash P (PySem.Str.ofString "Table"), key := PySem.Value.str (PySem.Str.ofString "Table") 401, val := PySem.Value.ref 159 }, { hash := PySem.PyData.keyHash P (PySem.Str.ofString "FUNCREF"), key := PySem.Value.str (PySem.Str.ofString "FUNCREF") 406, val := PySem.Value.int (-16) 405 }, { hash := PySem.PyData.keyHash P (PySem.Str.ofString "EXTERNREF"), key := PySem.Value.str (PySem.Str.ofString "EXTERNREF") 409, val := PySem.Value.int (-17) 408 }, { hash := PySem.PyData.keyHash P (PySem.Str.ofString "Sizes"), key := PySem.Value.str (PySem.Str.ofString "Sizes") 450, val := PySem.Value.ref 181 }, { hash := PySem.PyData.keyHash P (PySem.Str.ofString "_law_digit"), key := PySem.Value.str (PySem.Str.ofString "_law_digit") 460, val := PySem.Value.ref 192 }, { hash := PySem.PyData.keyHash P (PySem.Str.ofString "_law_operand"), key := PySem.Value.str (PySem.Str.ofString "_law_operand") 469, val := PySem.Value.ref 199 }, { hash := PySem.PyData.keyHash P (PySem.Str.ofString "_law_is_within"), key := PySem.Value.str (PySem.Str.ofString "_law_is_within") 478, val := PySem.Value.ref 206 }, { hash := PySem.PyData.keyHash P (PySem.Str.ofString "_law_due"), key := PySem.Value.str (PySem.Str.ofString "_law_due") 484, val := PySem.Value.ref 211 }] 24 }
noncomputable def hd.o_210 : Params → Obj := fun P => { cls := PySem.Value.none, data := PySem.Data.fields #[PySem.Value.int 2 0, PySem.Value.int 0 0, PySem.Value.ref 20, PySem.Value.int 7 0, PySem.Value.int 0 0, PySem.Value.ref 40, PySem.Value.int 9 0, PySem.Value.int 0 0, PySem.Value.ref 52, PySem.Value.int 14 0, PySem.Value.int 0 0, PySem.Value.ref 64, PySem.Value.int 17 0, PySem.Value.int 0 0, PySem.Value.ref 71, PySem.Value.int 22 0, PySem.Value.int 0 0, PySem.Value.ref 78, PySem.Value.int 76 0, PySem.Value.int 0 0, PySem.Value.ref 169, PySem.Value.int 85 0, PySem.Value.int 0 0, PySem.Value.ref 191, PySem.Value.int 87 0, PySem.Value.int 0 0, PySem.Value.ref 198, PySem.Value.int 89 0, PySem.Value.int 0 0, PySem.Value.ref 205, PySem.Value.int 91 0, PySem.Value.int 0 0, PySem.Value.ref 210] }
noncomputable def hd.o_211 : Params → Obj := fun P => { cls := PySem.Value.type "tuple", data := PySem.Data.seq #[] }
noncomputable def hd.o_212 : Params → Obj := fun P => { cls := PySem.Value.type "builtin_function_or_method", data := PySem.Data.fields #[PySem.Value.builtin "type.__prepare__", PySem.Value.type "type"] }
noncomputable def hd.o_213 : Params → Obj := fun P => { cls := PySem.Value.type "dict", data := PySem.Data.dict #[{ hash := PySem.PyData.keyHash P (PySem.Str.ofString "__module__"), key := PySem.Value.str (PySem.Str.ofString "__module__") 417, val := PySem.Value.str (PySem.Str.ofString "wasmcore.kinds") 402 }, { hash := PySem.PyData.keyHash P (PySem.Str.ofString "__qualname__"), key := PySem.Value.str (PySem.Str.ofString "__qualname__") 419, val := PySem.Value.str (PySem.Str.ofString "Sizes") 418 }, { hash := PySem.PyData.keyHash P (PySem.Str.ofString "__firstlineno__"), key := PySem.Value.str (PySem.Str.ofString "__firstlineno__") 421, val := PySem.Value.int 76 420 }, { hash := PySem.PyData.keyHash P (PySem.Str.ofString "__init__"), key := PySem.Value.str (PySem.Str.ofString "__init__") 437, val := PySem.Value.ref 178 }, { hash := PySem.PyData.keyHash P (PySem.Str.ofString "__static_attributes__"), key := PySem.Value.str (PySem.Str.ofString "__static_attributes__") 443, val := PySem.Value.ref 179 }] 5 }
noncomputable def hd.o_214 : Params → Obj := fun P => { cls := PySem.Value.type "tuple", data := PySem.Data.seq #[] }
noncomputable def hd.o_215 : Params → Obj := fun P => { cls := PySem.Value.none, data := PySem.Data.fields #[PySem.Value.int 78 0, PySem.Value.int 4 0, PySem.Value.ref 177] }
noncomputable def hd.o_216 : Params → Obj := fun P => { cls := PySem.Value.type "code", data := PySem.Data.fields #[PySem.Value.str (PySem.Str.ofString "Sizes") 412, PySem.Value.str (PySem.Str.ofString "Sizes") 413, PySem.Value.str (PySem.Str.ofString "/claim/cut.py") 414, PySem.Value.int 76 0, PySem.Value.int 0 0, PySem.Value.int 0 0, PySem.Value.int 0 0, PySem.Value.int 0 0, PySem.Value.ref 167, PySem.Value.bool Bool.false, PySem.Value.int 181 0, PySem.Value.ref 168, PySem.Value.none, PySem.Value.none, PySem.Value.none, PySem.Value.none, PySem.Value.int 415 0, PySem.Value.int 76 0, PySem.Value.str (PySem.Str.ofString "/claim/cut.py") 416] }
noncomputable def hd.o_217 : Params → Obj := fun P => { cls := PySem.Value.type "frame", slots := #[Option.some (PySem.Value.ref 169), Option.some (PySem.Value.ref 3), Option.some (PySem.Value.ref 166), Option.none, Option.some (PySem.Value.str (PySem.Str.ofString "wasmcore.kinds") 402), Option.none, Option.some (PySem.Value.ref 0)] }
noncomputable def hd.o_218 : Params → Obj := fun P => { cls := PySem.Value.type "tuple", data := PySem.Data.seq #[PySem.Value.int 65536 422, PySem.Value.int 65536 423, PySem.Value.int 4294967295 424, PySem.Value.int 200 425, PySem.Value.none] }
noncomputable def hd.o_219 : Params → Obj := fun P => { cls := PySem.Value.type "tuple", data := PySem.Data.seq #[] }
noncomputable def hd.o_220 : Params → Obj := fun P => { cls := PySem.Value.none, data := PySem.Data.fields #[] }
noncomputable def hd.o_221 : Params → Obj := fun P => { cls := PySem.Value.type "tuple", data := PySem.Data.seq #[PySem.Value.str (PySem.Str.ofString "self") 429, PySem.Value.str (PySem.Str.ofString "page") 430, PySem.Value.str (PySem.Str.ofString "pages") 431, PySem.Value.str (PySem.Str.ofString "elements") 432, PySem.Value.str (PySem.Str.ofString "depth") 433, PySem.Value.str (PySem.Str.ofString "fuel") 434] }
noncomputable def hd.o_222 : Params → Obj := fun P => { cls := PySem.Value.type "tuple", data := PySem.Data.seq #[] }
noncomputable def hd.o_223 : Params → Obj := fun P => { cls := PySem.Value.none, data := PySem.Data.func { name := PySem.Str.ofString "__init__", qualname := PySem.Str.ofString "Sizes.__init__", params := (sArgs (mtAt 13 0)), body := (PySem.FuncBody.stmts (sBody (mtAt 13 0))), scope := (sScope (mtAt 13 0)), globals := 0, closure := [], defaults := PySem.Value.none, kwdefaults := PySem.Value.none } }
noncomputable def hd.o_224 : Params → Obj := fun P => { cls := PySem.Value.type "code", data := PySem.Data.fields #[PySem.Value.str (PySem.Str.ofString "__init__") 426, PySem.Value.str (PySem.Str.ofString "Sizes.__init__") 427, PySem.Value.str (PySem.Str.ofString "/claim/cut.py") 428, PySem.Value.int 78 0, PySem.Value.int 6 0, PySem.Value.int 0 0, PySem.Value.int 0 0, PySem.Value.int 3 0, PySem.Value.ref 172, PySem.Value.bool Bool.true, PySem.Value.int 181 0, PySem.Value.ref 173, PySem.Value.none, PySem.Value.ref 174, PySem.Value.ref 175, PySem.Value.ref 176, PySem.Value.int 435 0, PySem.Value.int 78 0, PySem.Value.str (PySem.Str.ofString "/claim/cut.py") 436] }
noncomputable def hd.o_225 : Params → Obj := fun P => { cls := PySem.Value.type "function", data := PySem.Data.func { name := PySem.Str.ofString "__init__", qualname := PySem.Str.ofString "Sizes.__init__", params := (sArgs (mtAt 13 0)), body := (PySem.FuncBody.stmts (sBody (mtAt 13 0))), scope := (sScope (mtAt 13 0)), globals := 3, closure := [], defaults := PySem.Value.ref 171, kwdefaults := PySem.Value.none, pyModule := PySem.Value.str (PySem.Str.ofString "wasmcore.kinds") 402, code := PySem.Value.ref 177 } }
noncomputable def hd.o_226 : Params → Obj := fun P => { cls := PySem.Value.type "tuple", data := PySem.Data.seq #[PySem.Value.str (PySem.Str.ofString "depth") 438, PySem.Value.str (PySem.Str.ofString "elements") 439, PySem.Value.str (PySem.Str.ofString "fuel") 440, PySem.Value.str (PySem.Str.ofString "page") 441, PySem.Value.str (PySem.Str.ofString "pages") 442] }
noncomputable def hd.o_227 : Params → Obj := fun P => { cls := PySem.Value.type "dict", data := PySem.Data.dict #[{ hash := PySem.PyData.keyHash P (PySem.Str.ofString "__module__"), key := PySem.Value.str (PySem.Str.ofString "__module__") 417, val := PySem.Value.str (PySem.Str.ofString "wasmcore.kinds") 402 }, { hash := PySem.PyData.keyHash P (PySem.Str.ofString "__firstlineno__"), key := PySem.Value.str (PySem.Str.ofString "__firstlineno__") 421, val := PySem.Value.int 76 420 }, { hash := PySem.PyData.keyHash P (PySem.Str.ofString "__init__"), key := PySem.Value.str (PySem.Str.ofString "__init__") 437, val := PySem.Value.ref 178 }, { hash := PySem.PyData.keyHash P (PySem.Str.ofString "__static_attributes__"), key := PySem.Value.str (PySem.Str.ofString "__static_attributes__") 443, val := PySem.Value.ref 179 }, { hash := PySem.PyData.keyHash P (PySem.Str.ofString "__dict__"), key := PySem.Value.str (PySem.Str.ofString "__dict__") 445, val := PySem.Value.ref 182 }, { hash := PySem.PyData.keyHash P (PySem.Str.ofString "__weakref__"), key := PySem.Value.str (PySem.Str.ofString "__weakref__") 447, val := PySem.Value.ref 183 }, { hash := PySem.PyData.keyHash P (PySem.Str.ofString "__doc__"), key := PySem.Value.str (PySem.Str.ofString "__doc__") 448, val := PySem.Value.none }] 4 }
noncomputable def hd.o_228 : Params → Obj := fun P => { cls := PySem.Value.type "type", data := PySem.Data.cls { name := PySem.Str.ofString "Sizes", bases := [PySem.Value.type "object"], mro := [PySem.Value.ref 181, PySem.Value.type "object"], ns := 180, qualname := PySem.Str.ofString "Sizes" }, slots := #[Option.none, Option.none, Option.some (PySem.Value.str (PySem.Str.ofString "Sizes") 410), Option.some (PySem.Value.str (PySem.Str.ofString "Sizes") 418), Option.some (PySem.Value.builtin "object.__new__"), Option.some (PySem.Value.bool Bool.true)] }
noncomputable def hd.o_229 : Params → Obj := fun P => { cls := PySem.Value.type "getset_descriptor", data := PySem.Data.fields #[PySem.Value.str (PySem.Str.ofString "__dict__") 444, PySem.Value.ref 181, PySem.Value.builtin "function.__dict__", PySem.Value.builtin "function.__dict__#set"] }
noncomputable def hd.o_230 : Params → Obj := fun P => { cls := PySem.Value.type "getset_descriptor", data := PySem.Data.fields #[PySem.Value.str (PySem.Str.ofString "__weakref__") 446, PySem.Value.ref 181, PySem.Value.builtin "ExceptionGroup.__weakref__", PySem.Value.none] }
noncomputable def hd.o_231 : Params → Obj := fun P => { cls := PySem.Value.type "super", data := PySem.Data.fields #[PySem.Value.ref 181, PySem.Value.ref 181, PySem.Value.ref 181] }
noncomputable def hd.o_232 : Params → Obj := fun P => { cls := PySem.Value.type "builtin_function_or_method", data := PySem.Data.fields #[PySem.Value.builtin "object.__init_subclass__", PySem.Value.ref 181] }
noncomputable def hd.o_233 : Params → Obj := fun P => { cls := PySem.Value.type "tuple", data := PySem.Data.seq #[] }
noncomputable def hd.o_234 : Params → Obj := fun P => { cls := PySem.Value.none, data := PySem.Data.fields #[] }
noncomputable def hd.o_235 : Params → Obj := fun P => { cls := PySem.Value.type "tuple", data := PySem.Data.seq #[PySem.Value.str (PySem.Str.ofString "script") 456, PySem.Value.str (PySem.Str.ofString "place") 457] }
noncomputable def hd.o_236 : Params → Obj := fun P => { cls := PySem.Value.type "tuple", data := PySem.Data.seq #[] }
noncomputable def hd.o_237 : Params → Obj := fun P => { cls := PySem.Value.none, data := PySem.Data.func { name := PySem.Str.ofString "_law_digit", qualname := PySem.Str.ofString "_law_digit", params := (sArgs (fnAt 15)), body := (PySem.FuncBody.stmts (sBody (fnAt 15))), scope := (sScope (fnAt 15)), globals := 0, closure := [], defaults := PySem.Value.none, kwdefaults := PySem.Value.none } }
noncomputable def hd.o_238 : Params → Obj := fun P => { cls := PySem.Value.type "code", data := PySem.Data.fields #[PySem.Value.str (PySem.Str.ofString "_law_digit") 453, PySem.Value.str (PySem.Str.ofString "_law_digit") 454, PySem.Value.str (PySem.Str.ofString "/claim/cut.py") 455, PySem.Value.int 85 0, PySem.Value.int 2 0, PySem.Value.int 0 0, PySem.Value.int 0 0, PySem.Value.int 3 0, PySem.Value.ref 186, PySem.Value.bool Bool.true, PySem.Value.int 181 0, PySem.Value.ref 187, PySem.Value.none, PySem.Value.ref 188, PySem.Value.ref 189, PySem.Value.ref 190, PySem.Value.int 458 0, PySem.Value.int 85 0, PySem.Value.str (PySem.Str.ofString "/claim/cut.py") 459] }
noncomputable def hd.o_239 : Params → Obj := fun P => { cls := PySem.Value.type "function", data := PySem.Data.func { name := PySem.Str.ofString "_law_digit", qualname := PySem.Str.ofString "_law_digit", params := (sArgs (fnAt 15)), body := (PySem.FuncBody.stmts (sBody (fnAt 15))), scope := (sScope (fnAt 15)), globals := 3, closure := [], defaults := PySem.Value.none, kwdefaults := PySem.Value.none, pyModule := PySem.Value.str (PySem.Str.ofString "law_nm0113_01") 451, code := PySem.Value.ref 191 } }
noncomputable def hd.o_240 : Params → Obj := fun P => { cls := PySem.Value.type "tuple", data := PySem.Data.seq #[] }
noncomputable def hd.o_241 : Params → Obj := fun P => { cls := PySem.Value.none, data := PySem.Data.fields #[] }
noncomputable def hd.o_242 : Params → Obj := fun P => { cls := PySem.Value.type "tuple", data := PySem.Data.seq #[PySem.Value.str (PySem.Str.ofString "digit") 464, PySem.Value.str (PySem.Str.ofString "shift") 465, PySem.Value.str (PySem.Str.ofString "many") 466] }
noncomputable def hd.o_243 : Params → Obj := fun P => { cls := PySem.Value.type "tuple", data := PySem.Data.seq #[] }
noncomputable def hd.o_244 : Params → Obj := fun P => { cls := PySem.Value.none, data := PySem.Data.func { name := PySem.Str.ofString "_law_operand", qualname := PySem.Str.ofString "_law_operand", params := (sArgs (fnAt 16)), body := (PySem.FuncBody.stmts (sBody (fnAt 16))), scope := (sScope (fnAt 16)), globals := 0, closure := [], defaults := PySem.Value.none, kwdefaults := PySem.Value.none } }
noncomputable def hd.o_245 : Params → Obj := fun P => { cls := PySem.Value.type "code", data := PySem.Data.fields #[PySem.Value.str (PySem.Str.ofString "_law_operand") 461, PySem.Value.str (PySem.Str.ofString "_law_operand") 462, PySem.Value.str (PySem.Str.ofString "/claim/cut.py") 463, PySem.Value.int 87 0, PySem.Value.int 3 0, PySem.Value.int 0 0, PySem.Value.int 0 0, PySem.Value.int 3 0, PySem.Value.ref 193, PySem.Value.bool Bool.true, PySem.Value.int 181 0, PySem.Value.ref 194, PySem.Value.none, PySem.Value.ref 195, PySem.Value.ref 196, PySem.Value.ref 197, PySem.Value.int 467 0, PySem.Value.int 87 0, PySem.Value.str (PySem.Str.ofString "/claim/cut.py") 468] }
noncomputable def hd.o_246 : Params → Obj := fun P => { cls := PySem.Value.type "function", data := PySem.Data.func { name := PySem.Str.ofString "_law_operand", qualname := PySem.Str.ofString "_law_operand", params := (sArgs (fnAt 16)), body := (PySem.FuncBody.stmts (sBody (fnAt 16))), scope := (sScope (fnAt 16)), globals := 3, closure := [], defaults := PySem.Value.none, kwdefaults := PySem.Value.none, pyModule := PySem.Value.str (PySem.Str.ofString "law_nm0113_01") 451, code := PySem.Value.ref 198 } }
noncomputable def hd.o_247 : Params → Obj := fun P => { cls := PySem.Value.type "tuple", data := PySem.Data.seq #[] }
noncomputable def hd.o_248 : Params → Obj := fun P => { cls := PySem.Value.none, data := PySem.Data.fields #[] }
noncomputable def hd.o_249 : Params → Obj := fun P => { cls := PySem.Value.type "tuple", data := PySem.Data.seq #[PySem.Value.str (PySem.Str.ofString "row") 473, PySem.Value.str (PySem.Str.ofString "at") 474, PySem.Value.str (PySem.Str.ofString "many") 475] }
noncomputable def hd.o_250 : Params → Obj := fun P => { cls := PySem.Value.type "tuple", data := PySem.Data.seq #[] }
noncomputable def hd.o_251 : Params → Obj := fun P => { cls := PySem.Value.none, data := PySem.Data.func { name := PySem.Str.ofString "_law_is_within", qualname := PySem.Str.ofString "_law_is_within", params := (sArgs (fnAt 17)), body := (PySem.FuncBody.stmts (sBody (fnAt 17))), scope := (sScope (fnAt 17)), globals := 0, closure := [], defaults := PySem.Value.none, kwdefaults := PySem.Value.none } }
noncomputable def hd.o_252 : Params → Obj := fun P => { cls := PySem.Value.type "code", data := PySem.Data.fields #[PySem.Value.str (PySem.Str.ofString "_law_is_within") 470, PySem.Value.str (PySem.Str.ofString "_law_is_within") 471, PySem.Value.str (PySem.Str.ofString "/claim/cut.py") 472, PySem.Value.int 89 0, PySem.Value.int 3 0, PySem.Value.int 0 0, PySem.Value.int 0 0, PySem.Value.int 3 0, PySem.Value.ref 200, PySem.Value.bool Bool.true, PySem.Value.int 181 0, PySem.Value.ref 201, PySem.Value.none, PySem.Value.ref 202, PySem.Value.ref 203, PySem.Value.ref 204, PySem.Value.int 476 0, PySem.Value.int 89 0, PySem.Value.str (PySem.Str.ofString "/claim/cut.py") 477] }
noncomputable def hd.o_253 : Params → Obj := fun P => { cls := PySem.Value.type "function", data := PySem.Data.func { name := PySem.Str.ofString "_law_is_within", qualname := PySem.Str.ofString "_law_is_within", params := (sArgs (fnAt 17)), body := (PySem.FuncBody.stmts (sBody (fnAt 17))), scope := (sScope (fnAt 17)), globals := 3, closure := [], defaults := PySem.Value.none, kwdefaults := PySem.Value.none, pyModule := PySem.Value.str (PySem.Str.ofString "law_nm0113_01") 451, code := PySem.Value.ref 205 } }
noncomputable def hd.o_254 : Params → Obj := fun P => { cls := PySem.Value.type "tuple", data := PySem.Data.seq #[] }
noncomputable def hd.o_255 : Params → Obj := fun P => { cls := PySem.Value.none, data := PySem.Data.fields #[] }
noncomputable def hd.o_256 : Params → Obj := fun P => { cls := PySem.Value.none, data := PySem.Data.func { name := PySem.Str.ofString "_law_due", qualname := PySem.Str.ofString "_law_due", params := (sArgs (fnAt 18)), body := (PySem.FuncBody.stmts (sBody (fnAt 18))), scope := (sScope (fnAt 18)), globals := 0, closure := [], defaults := PySem.Value.none, kwdefaults := PySem.Value.none } }
noncomputable def hd.o_257 : Params → Obj := fun P => { cls := PySem.Value.type "code", data := PySem.Data.fields #[PySem.Value.str (PySem.Str.ofString "_law_due") 479, PySem.Value.str (PySem.Str.ofString "_law_due") 480, PySem.Value.str (PySem.Str.ofString "/claim/cut.py") 481, PySem.Value.int 91 0, PySem.Value.int 8 0, PySem.Value.int 0 0, PySem.Value.int 0 0, PySem.Value.int 3 0, PySem.Value.ref 207, PySem.Value.bool Bool.true, PySem.Value.int 181 0, PySem.Value.ref 208, PySem.Value.none, PySem.Value.none, PySem.Value.none, PySem.Value.ref 209, PySem.Value.int 482 0, PySem.Value.int 91 0, PySem.Value.str (PySem.Str.ofString "/claim/cut.py") 483] }
noncomputable def hd.o_258 : Params → Obj := fun P => { cls := PySem.Value.type "function", data := PySem.Data.func { name := PySem.Str.ofString "_law_due", qualname := PySem.Str.ofString "_law_due", params := (sArgs (fnAt 18)), body := (PySem.FuncBody.stmts (sBody (fnAt 18))), scope := (sScope (fnAt 18)), globals := 3, closure := [], defaults := PySem.Value.none, kwdefaults := PySem.Value.none, pyModule := PySem.Value.str (PySem.Str.ofString "law_nm0113_01") 451, code := PySem.Value.ref 210 } }
noncomputable def hd.o_259 : Params → Obj := fun P => { cls := PySem.Value.type "dict", data := PySem.Data.dict #[{ hash := PySem.PyData.keyHash P (PySem.Str.ofString "__name__"), key := PySem.Value.str (PySem.Str.ofString "__name__") 165, val := PySem.Value.str (PySem.Str.ofString "law_nm0113_01") 451 }, { hash := PySem.PyData.keyHash P (PySem.Str.ofString "__doc__"), key := PySem.Value.str (PySem.Str.ofString "__doc__") 166, val := PySem.Value.none }, { hash := PySem.PyData.keyHash P (PySem.Str.ofString "__package__"), key := PySem.Value.str (PySem.Str.ofString "__package__") 167, val := PySem.Value.none }, { hash := PySem.PyData.keyHash P (PySem.Str.ofString "__loader__"), key := PySem.Value.str (PySem.Str.ofString "__loader__") 168, val := PySem.Value.builtin "__main__.__loader__#opaque" }, { hash := PySem.PyData.keyHash P (PySem.Str.ofString "__spec__"), key := PySem.Value.str (PySem.Str.ofString "__spec__") 169, val := PySem.Value.none }, { hash := PySem.PyData.keyHash P (PySem.Str.ofString "__annotations__"), key := PySem.Value.str (PySem.Str.ofString "__annotations__") 170, val := PySem.Value.ref 6 }, { hash := PySem.PyData.keyHash P (PySem.Str.ofString "__builtins__"), key := PySem.Value.str (PySem.Str.ofString "__builtins__") 171, val := PySem.Value.ref 4 }, { hash := PySem.PyData.keyHash P (PySem.Str.ofString "__file__"), key := PySem.Value.str (PySem.Str.ofString "__file__") 173, val := PySem.Value.str (PySem.Str.ofString "/claim/cut.py") 172 }, { hash := PySem.PyData.keyHash P (PySem.Str.ofString "__cached__"), key := PySem.Value.str (PySem.Str.ofString "__cached__") 174, val := PySem.Value.none }, { hash := PySem.PyData.keyHash P (PySem.Str.ofString "WasmFault"), key := PySem.Value.str (PySem.Str.ofString "WasmFault") 217, val := PySem.Value.ref 31 }, { hash := PySem.PyData.keyHash P (PySem.Str.ofString "Trap"), key := PySem.Value.str (PySem.Str.ofString "Trap") 233, val := PySem.Value.ref 44 }, { hash := PySem.PyData.keyHash P (PySem.Str.ofString "Misused"), key := PySem.Value.str (PySem.Str.ofString "Misused") 249, val := PySem.Value.ref 56 }, { hash := PySem.PyData.keyHash P (PySem.Str.ofString "REFUSED"), key := PySem.Value.str (PySem.Str.ofString "REFUSED") 253, val := PySem.Value.int 4294967295 252 }, { hash := PySem.PyData.keyHash P (PySem.Str.ofString "OUTSIDE_TABLE"), key := PySem.Value.str (PySem.Str.ofString "OUTSIDE_TABLE") 255, val := PySem.Value.str (PySem.Str.ofString "out of bounds table access") 254 }, { hash := PySem.PyData.keyHash P (PySem.Str.ofString "want_within"), key := PySem.Value.str (PySem.Str.ofString "want_within") 265, val := PySem.Value.ref 65 }, { hash := PySem.PyData.keyHash P (PySem.Str.ofString "grown"), key := PySem.Value.str (PySem.Str.ofString "grown") 276, val := PySem.Value.ref 72 }, { hash := PySem.PyData.keyHash P (PySem.Str.ofString "Table"), key := PySem.Value.str (PySem.Str.ofString "Table") 401, val := PySem.Value.ref 159 }, { hash := PySem.PyData.keyHash P (PySem.Str.ofString "FUNCREF"), key := PySem.Value.str (PySem.Str.ofString "FUNCREF") 406, val := PySem.Value.int (-16) 405 }, { hash := PySem.PyData.keyHash P (PySem.Str.ofString "EXTERNREF"), key := PySem.Value.str (PySem.Str.ofString "EXTERNREF") 409, val := PySem.Value.int (-17) 408 }, { hash := PySem.PyData.keyHash P (PySem.Str.ofString "Sizes"), key := PySem.Value.str (PySem.Str.ofString "Sizes") 450, val := PySem.Value.ref 181 }, { hash := PySem.PyData.keyHash P (PySem.Str.ofString "_law_digit"), key := PySem.Value.str (PySem.Str.ofString "_law_digit") 460, val := PySem.Value.ref 192 }, { hash := PySem.PyData.keyHash P (PySem.Str.ofString "_law_operand"), key := PySem.Value.str (PySem.Str.ofString "_law_operand") 469, val := PySem.Value.ref 199 }, { hash := PySem.PyData.keyHash P (PySem.Str.ofString "_law_is_within"), key := PySem.Value.str (PySem.Str.ofString "_law_is_within") 478, val := PySem.Value.ref 206 }, { hash := PySem.PyData.keyHash P (PySem.Str.ofString "_law_due"), key := PySem.Value.str (PySem.Str.ofString "_law_due") 484, val := PySem.Value.ref 211 }, { hash := PySem.PyData.keyHash P (PySem.Str.ofString "_law_told"), key := PySem.Value.str (PySem.Str.ofString "_law_told") 499, val := PySem.Value.ref 218 }, { hash := PySem.PyData.keyHash P (PySem.Str.ofString "_law_source"), key := PySem.Value.str (PySem.Str.ofString "_law_source") 510, val := PySem.Value.ref 225 }, { hash := PySem.PyData.keyHash P (PySem.Str.ofString "_law_is_refused"), key := PySem.Value.str (PySem.Str.ofString "_law_is_refused") 520, val := PySem.Value.ref 232 }, { hash := PySem.PyData.keyHash P (PySem.Str.ofString "_law_is_same"), key := PySem.Value.str (PySem.Str.ofString "_law_is_same") 531, val := PySem.Value.ref 239 }, { hash := PySem.PyData.keyHash P (PySem.Str.ofString "law"), key := PySem.Value.str (PySem.Str.ofString "law") 537, val := PySem.Value.ref 244 }] 29 }
noncomputable def hd.o_260 : Params → Obj := fun P => { cls := PySem.Value.none, data := PySem.Data.fields #[PySem.Value.int 2 0, PySem.Value.int 0 0, PySem.Value.ref 20, PySem.Value.int 7 0, PySem.Value.int 0 0, PySem.Value.ref 40, PySem.Value.int 9 0, PySem.Value.int 0 0, PySem.Value.ref 52, PySem.Value.int 14 0, PySem.Value.int 0 0, PySem.Value.ref 64, PySem.Value.int 17 0, PySem.Value.int 0 0, PySem.Value.ref 71, PySem.Value.int 22 0, PySem.Value.int 0 0, PySem.Value.ref 78, PySem.Value.int 76 0, PySem.Value.int 0 0, PySem.Value.ref 169, PySem.Value.int 85 0, PySem.Value.int 0 0, PySem.Value.ref 191, PySem.Value.int 87 0, PySem.Value.int 0 0, PySem.Value.ref 198, PySem.Value.int 89 0, PySem.Value.int 0 0, PySem.Value.ref 205, PySem.Value.int 91 0, PySem.Value.int 0 0, PySem.Value.ref 210, PySem.Value.int 101 0, PySem.Value.int 0 0, PySem.Value.ref 217, PySem.Value.int 118 0, PySem.Value.int 0 0, PySem.Value.ref 224, PySem.Value.int 124 0, PySem.Value.int 0 0, PySem.Value.ref 231, PySem.Value.int 130 0, PySem.Value.int 0 0, PySem.Value.ref 238, PySem.Value.int 137 0, PySem.Value.int 0 0, PySem.Value.ref 243] }
noncomputable def hd.o_261 : Params → Obj := fun P => { cls := PySem.Value.type "tuple", data := PySem.Data.seq #[] }
noncomputable def hd.o_262 : Params → Obj := fun P => { cls := PySem.Value.none, data := PySem.Data.fields #[] }
noncomputable def hd.o_263 : Params → Obj := fun P => { cls := PySem.Value.type "tuple", data := PySem.Data.seq #[PySem.Value.str (PySem.Str.ofString "op") 488, PySem.Value.str (PySem.Str.ofString "one") 489, PySem.Value.str (PySem.Str.ofString "other") 490, PySem.Value.str (PySem.Str.ofString "to") 491, PySem.Value.str (PySem.Str.ofString "value") 492, PySem.Value.str (PySem.Str.ofString "segment") 493, PySem.Value.str (PySem.Str.ofString "begin") 494, PySem.Value.str (PySem.Str.ofString "many") 495, PySem.Value.str (PySem.Str.ofString "fault") 496] }
noncomputable def hd.o_264 : Params → Obj := fun P => { cls := PySem.Value.type "tuple", data := PySem.Data.seq #[] }
noncomputable def hd.o_265 : Params → Obj := fun P => { cls := PySem.Value.none, data := PySem.Data.func { name := PySem.Str.ofString "_law_told", qualname := PySem.Str.ofString "_law_told", params := (sArgs (fnAt 19)), body := (PySem.FuncBody.stmts (sBody (fnAt 19))), scope := (sScope (fnAt 19)), globals := 0, closure := [], defaults := PySem.Value.none, kwdefaults := PySem.Value.none } }
noncomputable def hd.o_266 : Params → Obj := fun P => { cls := PySem.Value.type "code", data := PySem.Data.fields #[PySem.Value.str (PySem.Str.ofString "_law_told") 485, PySem.Value.str (PySem.Str.ofString "_law_told") 486, PySem.Value.str (PySem.Str.ofString "/claim/cut.py") 487, PySem.Value.int 101 0, PySem.Value.int 8 0, PySem.Value.int 0 0, PySem.Value.int 0 0, PySem.Value.int 3 0, PySem.Value.ref 212, PySem.Value.bool Bool.true, PySem.Value.int 181 0, PySem.Value.ref 213, PySem.Value.none, PySem.Value.ref 214, PySem.Value.ref 215, PySem.Value.ref 216, PySem.Value.int 497 0, PySem.Value.int 101 0, PySem.Value.str (PySem.Str.ofString "/claim/cut.py") 498] }
noncomputable def hd.o_267 : Params → Obj := fun P => { cls := PySem.Value.type "function", data := PySem.Data.func { name := PySem.Str.ofString "_law_told", qualname := PySem.Str.ofString "_law_told", params := (sArgs (fnAt 19)), body := (PySem.FuncBody.stmts (sBody (fnAt 19))), scope := (sScope (fnAt 19)), globals := 3, closure := [], defaults := PySem.Value.none, kwdefaults := PySem.Value.none, pyModule := PySem.Value.str (PySem.Str.ofString "law_nm0113_01") 451, code := PySem.Value.ref 217 } }
noncomputable def hd.o_268 : Params → Obj := fun P => { cls := PySem.Value.type "tuple", data := PySem.Data.seq #[] }
noncomputable def hd.o_269 : Params → Obj := fun P => { cls := PySem.Value.none, data := PySem.Data.fields #[] }
noncomputable def hd.o_270 : Params → Obj := fun P => { cls := PySem.Value.type "tuple", data := PySem.Data.seq #[PySem.Value.str (PySem.Str.ofString "op") 503, PySem.Value.str (PySem.Str.ofString "value") 504, PySem.Value.str (PySem.Str.ofString "row") 505, PySem.Value.str (PySem.Str.ofString "other") 506, PySem.Value.str (PySem.Str.ofString "segment") 507] }
noncomputable def hd.o_271 : Params → Obj := fun P => { cls := PySem.Value.type "tuple", data := PySem.Data.seq #[] }
noncomputable def hd.o_272 : Params → Obj := fun P => { cls := PySem.Value.none, data := PySem.Data.func { name := PySem.Str.ofString "_law_source", qualname := PySem.Str.ofString "_law_source", params := (sArgs (fnAt 20)), body := (PySem.FuncBody.stmts (sBody (fnAt 20))), scope := (sScope (fnAt 20)), globals := 0, closure := [], defaults := PySem.Value.none, kwdefaults := PySem.Value.none } }
noncomputable def hd.o_273 : Params → Obj := fun P => { cls := PySem.Value.type "code", data := PySem.Data.fields #[PySem.Value.str (PySem.Str.ofString "_law_source") 500, PySem.Value.str (PySem.Str.ofString "_law_source") 501, PySem.Value.str (PySem.Str.ofString "/claim/cut.py") 502, PySem.Value.int 118 0, PySem.Value.int 5 0, PySem.Value.int 0 0, PySem.Value.int 0 0, PySem.Value.int 3 0, PySem.Value.ref 219, PySem.Value.bool Bool.true, PySem.Value.int 181 0, PySem.Value.ref 220, PySem.Value.none, PySem.Value.ref 221, PySem.Value.ref 222, PySem.Value.ref 223, PySem.Value.int 508 0, PySem.Value.int 118 0, PySem.Value.str (PySem.Str.ofString "/claim/cut.py") 509] }
noncomputable def hd.o_274 : Params → Obj := fun P => { cls := PySem.Value.type "function", data := PySem.Data.func { name := PySem.Str.ofString "_law_source", qualname := PySem.Str.ofString "_law_source", params := (sArgs (fnAt 20)), body := (PySem.FuncBody.stmts (sBody (fnAt 20))), scope := (sScope (fnAt 20)), globals := 3, closure := [], defaults := PySem.Value.none, kwdefaults := PySem.Value.none, pyModule := PySem.Value.str (PySem.Str.ofString "law_nm0113_01") 451, code := PySem.Value.ref 224 } }
noncomputable def hd.o_275 : Params → Obj := fun P => { cls := PySem.Value.type "tuple", data := PySem.Data.seq #[] }
noncomputable def hd.o_276 : Params → Obj := fun P => { cls := PySem.Value.none, data := PySem.Data.fields #[] }
noncomputable def hd.o_277 : Params → Obj := fun P => { cls := PySem.Value.type "tuple", data := PySem.Data.seq #[PySem.Value.str (PySem.Str.ofString "kind") 514, PySem.Value.str (PySem.Str.ofString "least") 515, PySem.Value.str (PySem.Str.ofString "sizes") 516, PySem.Value.str (PySem.Str.ofString "fault") 517] }
noncomputable def hd.o_278 : Params → Obj := fun P => { cls := PySem.Value.type "tuple", data := PySem.Data.seq #[] }
noncomputable def hd.o_279 : Params → Obj := fun P => { cls := PySem.Value.none, data := PySem.Data.func { name := PySem.Str.ofString "_law_is_refused", qualname := PySem.Str.ofString "_law_is_refused", params := (sArgs (fnAt 21)), body := (PySem.FuncBody.stmts (sBody (fnAt 21))), scope := (sScope (fnAt 21)), globals := 0, closure := [], defaults := PySem.Value.none, kwdefaults := PySem.Value.none } }
noncomputable def hd.o_280 : Params → Obj := fun P => { cls := PySem.Value.type "code", data := PySem.Data.fields #[PySem.Value.str (PySem.Str.ofString "_law_is_refused") 511, PySem.Value.str (PySem.Str.ofString "_law_is_refused") 512, PySem.Value.str (PySem.Str.ofString "/claim/cut.py") 513, PySem.Value.int 124 0, PySem.Value.int 3 0, PySem.Value.int 0 0, PySem.Value.int 0 0, PySem.Value.int 3 0, PySem.Value.ref 226, PySem.Value.bool Bool.true, PySem.Value.int 181 0, PySem.Value.ref 227, PySem.Value.none, PySem.Value.ref 228, PySem.Value.ref 229, PySem.Value.ref 230, PySem.Value.int 518 0, PySem.Value.int 124 0, PySem.Value.str (PySem.Str.ofString "/claim/cut.py") 519] }
noncomputable def hd.o_281 : Params → Obj := fun P => { cls := PySem.Value.type "function", data := PySem.Data.func { name := PySem.Str.ofString "_law_is_refused", qualname := PySem.Str.ofString "_law_is_refused", params := (sArgs (fnAt 21)), body := (PySem.FuncBody.stmts (sBody (fnAt 21))), scope := (sScope (fnAt 21)), globals := 3, closure := [], defaults := PySem.Value.none, kwdefaults := PySem.Value.none, pyModule := PySem.Value.str (PySem.Str.ofString "law_nm0113_01") 451, code := PySem.Value.ref 231 } }
noncomputable def hd.o_282 : Params → Obj := fun P => { cls := PySem.Value.type "tuple", data := PySem.Data.seq #[] }
noncomputable def hd.o_283 : Params → Obj := fun P => { cls := PySem.Value.none, data := PySem.Data.fields #[] }
noncomputable def hd.o_284 : Params → Obj := fun P => { cls := PySem.Value.type "tuple", data := PySem.Data.seq #[PySem.Value.str (PySem.Str.ofString "tables") 524, PySem.Value.str (PySem.Str.ofString "rows") 525, PySem.Value.str (PySem.Str.ofString "kinds") 526, PySem.Value.str (PySem.Str.ofString "mosts") 527, PySem.Value.str (PySem.Str.ofString "j") 528] }
noncomputable def hd.o_285 : Params → Obj := fun P => { cls := PySem.Value.type "tuple", data := PySem.Data.seq #[] }
noncomputable def hd.o_286 : Params → Obj := fun P => { cls := PySem.Value.none, data := PySem.Data.func { name := PySem.Str.ofString "_law_is_same", qualname := PySem.Str.ofString "_law_is_same", params := (sArgs (fnAt 22)), body := (PySem.FuncBody.stmts (sBody (fnAt 22))), scope := (sScope (fnAt 22)), globals := 0, closure := [], defaults := PySem.Value.none, kwdefaults := PySem.Value.none } }
noncomputable def hd.o_287 : Params → Obj := fun P => { cls := PySem.Value.type "code", data := PySem.Data.fields #[PySem.Value.str (PySem.Str.ofString "_law_is_same") 521, PySem.Value.str (PySem.Str.ofString "_law_is_same") 522, PySem.Value.str (PySem.Str.ofString "/claim/cut.py") 523, PySem.Value.int 130 0, PySem.Value.int 4 0, PySem.Value.int 0 0, PySem.Value.int 0 0, PySem.Value.int 3 0, PySem.Value.ref 233, PySem.Value.bool Bool.true, PySem.Value.int 181 0, PySem.Value.ref 234, PySem.Value.none, PySem.Value.ref 235, PySem.Value.ref 236, PySem.Value.ref 237, PySem.Value.int 529 0, PySem.Value.int 130 0, PySem.Value.str (PySem.Str.ofString "/claim/cut.py") 530] }
noncomputable def hd.o_288 : Params → Obj := fun P => { cls := PySem.Value.type "function", data := PySem.Data.func { name := PySem.Str.ofString "_law_is_same", qualname := PySem.Str.ofString "_law_is_same", params := (sArgs (fnAt 22)), body := (PySem.FuncBody.stmts (sBody (fnAt 22))), scope := (sScope (fnAt 22)), globals := 3, closure := [], defaults := PySem.Value.none, kwdefaults := PySem.Value.none, pyModule := PySem.Value.str (PySem.Str.ofString "law_nm0113_01") 451, code := PySem.Value.ref 238 } }
noncomputable def hd.o_289 : Params → Obj := fun P => { cls := PySem.Value.type "tuple", data := PySem.Data.seq #[] }
noncomputable def hd.o_290 : Params → Obj := fun P => { cls := PySem.Value.none, data := PySem.Data.fields #[] }
noncomputable def hd.o_291 : Params → Obj := fun P => { cls := PySem.Value.none, data := PySem.Data.func { name := PySem.Str.ofString "law", qualname := PySem.Str.ofString "law", params := (sArgs (fnAt 23)), body := (PySem.FuncBody.stmts (sBody (fnAt 23))), scope := (sScope (fnAt 23)), globals := 0, closure := [], defaults := PySem.Value.none, kwdefaults := PySem.Value.none } }
noncomputable def hd.o_292 : Params → Obj := fun P => { cls := PySem.Value.type "code", data := PySem.Data.fields #[PySem.Value.str (PySem.Str.ofString "law") 532, PySem.Value.str (PySem.Str.ofString "law") 533, PySem.Value.str (PySem.Str.ofString "/claim/cut.py") 534, PySem.Value.int 137 0, PySem.Value.int 1 0, PySem.Value.int 0 0, PySem.Value.int 0 0, PySem.Value.int 3 0, PySem.Value.ref 240, PySem.Value.bool Bool.true, PySem.Value.int 181 0, PySem.Value.ref 241, PySem.Value.none, PySem.Value.none, PySem.Value.none, PySem.Value.ref 242, PySem.Value.int 535 0, PySem.Value.int 137 0, PySem.Value.str (PySem.Str.ofString "/claim/cut.py") 536] }
noncomputable def hd.o_293 : Params → Obj := fun P => { cls := PySem.Value.type "function", data := PySem.Data.func { name := PySem.Str.ofString "law", qualname := PySem.Str.ofString "law", params := (sArgs (fnAt 23)), body := (PySem.FuncBody.stmts (sBody (fnAt 23))), scope := (sScope (fnAt 23)), globals := 3, closure := [], defaults := PySem.Value.none, kwdefaults := PySem.Value.none, pyModule := PySem.Value.str (PySem.Str.ofString "law_nm0113_01") 451, code := PySem.Value.ref 243 } }
noncomputable def hd.o_44 : Params → Obj := fun P => { cls := PySem.Value.none, data := PySem.Data.fields #[] }
noncomputable def hd.hA : Params → Heap := fun P => { objs := #[PySem.W.boot_o_0 P, PySem.W.boot_o_1 P, PySem.W.boot_o_2 P, PySem.W.boot_o_3 P, PySem.W.boot_o_4 P, PySem.W.boot_o_5 P, PySem.W.boot_o_6 P, PySem.W.boot_o_7 P, PySem.W.boot_o_8 P, PySem.W.boot_o_9 P, PySem.W.boot_o_10 P, hd.o_43 P, hd.o_44 P, hd.o_45 P, hd.o_46 P] }
noncomputable def hd.hB : Params → Heap := fun P => { objs := #[PySem.W.boot_o_0 P, PySem.W.boot_o_1 P, hd.o_49 P, hd.o_87 P, PySem.W.boot_o_4 P, PySem.W.boot_o_5 P, PySem.W.boot_o_6 P, PySem.W.boot_o_7 P, PySem.W.boot_o_8 P, PySem.W.boot_o_9 P, PySem.W.boot_o_10 P, hd.o_43 P, hd.o_88 P, hd.o_45 P, hd.o_46 P, hd.o_52 P, hd.o_53 P, hd.o_54 P, hd.o_55 P, hd.o_56 P, hd.o_57 P, hd.o_58 P, hd.o_59 P, hd.o_60 P, hd.o_61 P, hd.o_62 P, hd.o_63 P, hd.o_64 P, hd.o_65 P, hd.o_66 P, hd.o_67 P, hd.o_89 P, hd.o_69 P, hd.o_70 P, hd.o_71 P, hd.o_75 P, hd.o_76 P, hd.o_77 P, hd.o_78 P, hd.o_79 P, hd.o_80 P, hd.o_81 P, hd.o_82 P, hd.o_83 P, hd.o_84 P, hd.o_85 P, hd.o_86 P, hd.o_90 P, hd.o_91 P, hd.o_92 P, hd.o_93 P, hd.o_94 P, hd.o_95 P, hd.o_96 P, hd.o_97 P, hd.o_98 P, hd.o_99 P, hd.o_100 P, hd.o_101 P, hd.o_102 P, hd.o_103 P, hd.o_104 P, hd.o_105 P, hd.o_106 P, hd.o_107 P, hd.o_108 P, hd.o_109 P, hd.o_110 P, hd.o_111 P, hd.o_112 P, hd.o_113 P, hd.o_114 P, hd.o_115 P] }
noncomputable def hd.hC : Params → Heap := fun P => { objs := #[PySem.W.boot_o_0 P, PySem.W.boot_o_1 P, hd.o_49 P, hd.o_116 P, PySem.W.boot_o_4 P, PySem.W.boot_o_5 P, PySem.W.boot_o_6 P, PySem.W.boot_o_7 P, PySem.W.boot_o_8 P, PySem.W.boot_o_9 P, PySem.W.boot_o_10 P, hd.o_43 P, hd.o_117 P, hd.o_45 P, hd.o_46 P, hd.o_52 P, hd.o_53 P, hd.o_54 P, hd.o_55 P, hd.o_56 P, hd.o_57 P, hd.o_58 P, hd.o_59 P, hd.o_60 P, hd.o_61 P, hd.o_62 P, hd.o_63 P, hd.o_64 P, hd.o_65 P, hd.o_66 P, hd.o_67 P, hd.o_89 P, hd.o_69 P, hd.o_70 P, hd.o_71 P, hd.o_75 P, hd.o_76 P, hd.o_77 P, hd.o_78 P, hd.o_79 P, hd.o_80 P, hd.o_81 P, hd.o_82 P, hd.o_83 P, hd.o_84 P, hd.o_85 P, hd.o_86 P, hd.o_90 P, hd.o_91 P, hd.o_92 P, hd.o_93 P, hd.o_94 P, hd.o_95 P, hd.o_96 P, hd.o_97 P, hd.o_98 P, hd.o_99 P, hd.o_100 P, hd.o_101 P, hd.o_102 P, hd.o_103 P, hd.o_104 P, hd.o_105 P, hd.o_106 P, hd.o_107 P, hd.o_108 P, hd.o_109 P, hd.o_110 P, hd.o_111 P, hd.o_112 P, hd.o_113 P, hd.o_114 P, hd.o_115 P, hd.o_118 P, hd.o_119 P, hd.o_120 P, hd.o_121 P, hd.o_122 P, hd.o_123 P, hd.o_124 P, hd.o_125 P, hd.o_126 P, hd.o_127 P, hd.o_128 P, hd.o_129 P, hd.o_130 P, hd.o_131 P, hd.o_132 P, hd.o_133 P, hd.o_134 P, hd.o_135 P, hd.o_136 P, hd.o_137 P, hd.o_138 P, hd.o_139 P, hd.o_140 P, hd.o_141 P, hd.o_142 P, hd.o_143 P, hd.o_144 P, hd.o_145 P, hd.o_146 P, hd.o_147 P, hd.o_148 P, hd.o_149 P, hd.o_150 P, hd.o_151 P, hd.o_152 P, hd.o_153 P, hd.o_154 P, hd.o_155 P, hd.o_156 P, hd.o_157 P, hd.o_158 P, hd.o_159 P, hd.o_160 P, hd.o_161 P, hd.o_162 P, hd.o_163 P, hd.o_164 P, hd.o_165 P, hd.o_166 P, hd.o_167 P, hd.o_168 P, hd.o_169 P, hd.o_170 P, hd.o_171 P, hd.o_172 P, hd.o_173 P, hd.o_174 P, hd.o_175 P, hd.o_176 P, hd.o_177 P, hd.o_178 P, hd.o_179 P, hd.o_180 P, hd.o_181 P, hd.o_182 P, hd.o_183 P, hd.o_184 P, hd.o_185 P, hd.o_186 P, hd.o_187 P, hd.o_188 P, hd.o_189 P, hd.o_190 P, hd.o_191 P, hd.o_192 P, hd.o_193 P, hd.o_194 P, hd.o_195 P, hd.o_196 P, hd.o_197 P, hd.o_198 P, hd.o_199 P, hd.o_200 P, hd.o_201 P, hd.o_202 P, hd.o_203 P, hd.o_204 P, hd.o_205 P, hd.o_206 P, hd.o_207 P, hd.o_208 P] }
noncomputable def hd.hD : Params → Heap := fun P => { objs := #[PySem.W.boot_o_0 P, PySem.W.boot_o_1 P, hd.o_49 P, hd.o_209 P, PySem.W.boot_o_4 P, PySem.W.boot_o_5 P, PySem.W.boot_o_6 P, PySem.W.boot_o_7 P, PySem.W.boot_o_8 P, PySem.W.boot_o_9 P, PySem.W.boot_o_10 P, hd.o_43 P, hd.o_210 P, hd.o_45 P, hd.o_46 P, hd.o_52 P, hd.o_53 P, hd.o_54 P, hd.o_55 P, hd.o_56 P, hd.o_57 P, hd.o_58 P, hd.o_59 P, hd.o_60 P, hd.o_61 P, hd.o_62 P, hd.o_63 P, hd.o_64 P, hd.o_65 P, hd.o_66 P, hd.o_67 P, hd.o_89 P, hd.o_69 P, hd.o_70 P, hd.o_71 P, hd.o_75 P, hd.o_76 P, hd.o_77 P, hd.o_78 P, hd.o_79 P, hd.o_80 P, hd.o_81 P, hd.o_82 P, hd.o_83 P, hd.o_84 P, hd.o_85 P, hd.o_86 P, hd.o_90 P, hd.o_91 P, hd.o_92 P, hd.o_93 P, hd.o_94 P, hd.o_95 P, hd.o_96 P, hd.o_97 P, hd.o_98 P, hd.o_99 P, hd.o_100 P, hd.o_101 P, hd.o_102 P, hd.o_103 P, hd.o_104 P, hd.o_105 P, hd.o_106 P, hd.o_107 P, hd.o_108 P, hd.o_109 P, hd.o_110 P, hd.o_111 P, hd.o_112 P, hd.o_113 P, hd.o_114 P, hd.o_115 P, hd.o_118 P, hd.o_119 P, hd.o_120 P, hd.o_121 P, hd.o_122 P, hd.o_123 P, hd.o_124 P, hd.o_125 P, hd.o_126 P, hd.o_127 P, hd.o_128 P, hd.o_129 P, hd.o_130 P, hd.o_131 P, hd.o_132 P, hd.o_133 P, hd.o_134 P, hd.o_135 P, hd.o_136 P, hd.o_137 P, hd.o_138 P, hd.o_139 P, hd.o_140 P, hd.o_141 P, hd.o_142 P, hd.o_143 P, hd.o_144 P, hd.o_145 P, hd.o_146 P, hd.o_147 P, hd.o_148 P, hd.o_149 P, hd.o_150 P, hd.o_151 P, hd.o_152 P, hd.o_153 P, hd.o_154 P, hd.o_155 P, hd.o_156 P, hd.o_157 P, hd.o_158 P, hd.o_159 P, hd.o_160 P, hd.o_161 P, hd.o_162 P, hd.o_163 P, hd.o_164 P, hd.o_165 P, hd.o_166 P, hd.o_167 P, hd.o_168 P, hd.o_169 P, hd.o_170 P, hd.o_171 P, hd.o_172 P, hd.o_173 P, hd.o_174 P, hd.o_175 P, hd.o_176 P, hd.o_177 P, hd.o_178 P, hd.o_179 P, hd.o_180 P, hd.o_181 P, hd.o_182 P, hd.o_183 P, hd.o_184 P, hd.o_185 P, hd.o_186 P, hd.o_187 P, hd.o_188 P, hd.o_189 P, hd.o_190 P, hd.o_191 P, hd.o_192 P, hd.o_193 P, hd.o_194 P, hd.o_195 P, hd.o_196 P, hd.o_197 P, hd.o_198 P, hd.o_199 P, hd.o_200 P, hd.o_201 P, hd.o_202 P, hd.o_203 P, hd.o_204 P, hd.o_205 P, hd.o_206 P, hd.o_207 P, hd.o_208 P, hd.o_211 P, hd.o_212 P, hd.o_213 P, hd.o_214 P, hd.o_215 P, hd.o_216 P, hd.o_217 P, hd.o_218 P, hd.o_219 P, hd.o_220 P, hd.o_221 P, hd.o_222 P, hd.o_223 P, hd.o_224 P, hd.o_225 P, hd.o_226 P, hd.o_227 P, hd.o_228 P, hd.o_229 P, hd.o_230 P, hd.o_231 P, hd.o_232 P, hd.o_233 P, hd.o_234 P, hd.o_235 P, hd.o_236 P, hd.o_237 P, hd.o_238 P, hd.o_239 P, hd.o_240 P, hd.o_241 P, hd.o_242 P, hd.o_243 P, hd.o_244 P, hd.o_245 P, hd.o_246 P, hd.o_247 P, hd.o_248 P, hd.o_249 P, hd.o_250 P, hd.o_251 P, hd.o_252 P, hd.o_253 P, hd.o_254 P, hd.o_255 P, hd.o_256 P, hd.o_257 P, hd.o_258 P] }
noncomputable def hd.hE : Params → Heap := fun P => { objs := #[PySem.W.boot_o_0 P, PySem.W.boot_o_1 P, hd.o_49 P, hd.o_259 P, PySem.W.boot_o_4 P, PySem.W.boot_o_5 P, PySem.W.boot_o_6 P, PySem.W.boot_o_7 P, PySem.W.boot_o_8 P, PySem.W.boot_o_9 P, PySem.W.boot_o_10 P, hd.o_43 P, hd.o_260 P, hd.o_45 P, hd.o_46 P, hd.o_52 P, hd.o_53 P, hd.o_54 P, hd.o_55 P, hd.o_56 P, hd.o_57 P, hd.o_58 P, hd.o_59 P, hd.o_60 P, hd.o_61 P, hd.o_62 P, hd.o_63 P, hd.o_64 P, hd.o_65 P, hd.o_66 P, hd.o_67 P, hd.o_89 P, hd.o_69 P, hd.o_70 P, hd.o_71 P, hd.o_75 P, hd.o_76 P, hd.o_77 P, hd.o_78 P, hd.o_79 P, hd.o_80 P, hd.o_81 P, hd.o_82 P, hd.o_83 P, hd.o_84 P, hd.o_85 P, hd.o_86 P, hd.o_90 P, hd.o_91 P, hd.o_92 P, hd.o_93 P, hd.o_94 P, hd.o_95 P, hd.o_96 P, hd.o_97 P, hd.o_98 P, hd.o_99 P, hd.o_100 P, hd.o_101 P, hd.o_102 P, hd.o_103 P, hd.o_104 P, hd.o_105 P, hd.o_106 P, hd.o_107 P, hd.o_108 P, hd.o_109 P, hd.o_110 P, hd.o_111 P, hd.o_112 P, hd.o_113 P, hd.o_114 P, hd.o_115 P, hd.o_118 P, hd.o_119 P, hd.o_120 P, hd.o_121 P, hd.o_122 P, hd.o_123 P, hd.o_124 P, hd.o_125 P, hd.o_126 P, hd.o_127 P, hd.o_128 P, hd.o_129 P, hd.o_130 P, hd.o_131 P, hd.o_132 P, hd.o_133 P, hd.o_134 P, hd.o_135 P, hd.o_136 P, hd.o_137 P, hd.o_138 P, hd.o_139 P, hd.o_140 P, hd.o_141 P, hd.o_142 P, hd.o_143 P, hd.o_144 P, hd.o_145 P, hd.o_146 P, hd.o_147 P, hd.o_148 P, hd.o_149 P, hd.o_150 P, hd.o_151 P, hd.o_152 P, hd.o_153 P, hd.o_154 P, hd.o_155 P, hd.o_156 P, hd.o_157 P, hd.o_158 P, hd.o_159 P, hd.o_160 P, hd.o_161 P, hd.o_162 P, hd.o_163 P, hd.o_164 P, hd.o_165 P, hd.o_166 P, hd.o_167 P, hd.o_168 P, hd.o_169 P, hd.o_170 P, hd.o_171 P, hd.o_172 P, hd.o_173 P, hd.o_174 P, hd.o_175 P, hd.o_176 P, hd.o_177 P, hd.o_178 P, hd.o_179 P, hd.o_180 P, hd.o_181 P, hd.o_182 P, hd.o_183 P, hd.o_184 P, hd.o_185 P, hd.o_186 P, hd.o_187 P, hd.o_188 P, hd.o_189 P, hd.o_190 P, hd.o_191 P, hd.o_192 P, hd.o_193 P, hd.o_194 P, hd.o_195 P, hd.o_196 P, hd.o_197 P, hd.o_198 P, hd.o_199 P, hd.o_200 P, hd.o_201 P, hd.o_202 P, hd.o_203 P, hd.o_204 P, hd.o_205 P, hd.o_206 P, hd.o_207 P, hd.o_208 P, hd.o_211 P, hd.o_212 P, hd.o_213 P, hd.o_214 P, hd.o_215 P, hd.o_216 P, hd.o_217 P, hd.o_218 P, hd.o_219 P, hd.o_220 P, hd.o_221 P, hd.o_222 P, hd.o_223 P, hd.o_224 P, hd.o_225 P, hd.o_226 P, hd.o_227 P, hd.o_228 P, hd.o_229 P, hd.o_230 P, hd.o_231 P, hd.o_232 P, hd.o_233 P, hd.o_234 P, hd.o_235 P, hd.o_236 P, hd.o_237 P, hd.o_238 P, hd.o_239 P, hd.o_240 P, hd.o_241 P, hd.o_242 P, hd.o_243 P, hd.o_244 P, hd.o_245 P, hd.o_246 P, hd.o_247 P, hd.o_248 P, hd.o_249 P, hd.o_250 P, hd.o_251 P, hd.o_252 P, hd.o_253 P, hd.o_254 P, hd.o_255 P, hd.o_256 P, hd.o_257 P, hd.o_258 P, hd.o_261 P, hd.o_262 P, hd.o_263 P, hd.o_264 P, hd.o_265 P, hd.o_266 P, hd.o_267 P, hd.o_268 P, hd.o_269 P, hd.o_270 P, hd.o_271 P, hd.o_272 P, hd.o_273 P, hd.o_274 P, hd.o_275 P, hd.o_276 P, hd.o_277 P, hd.o_278 P, hd.o_279 P, hd.o_280 P, hd.o_281 P, hd.o_282 P, hd.o_283 P, hd.o_284 P, hd.o_285 P, hd.o_286 P, hd.o_287 P, hd.o_288 P, hd.o_289 P, hd.o_290 P, hd.o_291 P, hd.o_292 P, hd.o_293 P] }
abbrev pP : Program := PySem.Challenge.rw_nm0113_01.row.prog
noncomputable def hd.env : Env := { scope := pP.main.scope, locals := mainNs, globals := mainNs, cells := [], code := Value.ref 13, frame := some 14 }
noncomputable abbrev hd.cE : Code := Code.body (behindTheImports pP) hd.env
abbrev hd.q0 : Pos := { line := 0, col := 0, endLine := 0, endCol := 0 }
noncomputable abbrev hd.l1 : List Stmt := [sAt 0, sAt 1, sAt 2, sAt 3, sAt 4, sAt 5, sAt 6, sAt 7, sAt 8]
noncomputable abbrev hd.l2 : List Stmt := [sAt 9]
noncomputable abbrev hd.l3 : List Stmt := [sAt 10, sAt 11, sAt 12, sAt 13, sAt 14, sAt 15, sAt 16, sAt 17, sAt 18]
noncomputable abbrev hd.l4 : List Stmt := [sAt 19, sAt 20, sAt 21, sAt 22, sAt 23]
abbrev hd.at_ (h : Heap) (tk : Nat) (os : OsState) : Shared := { heap := h, gens := #[], drawn := {}, toks := tk, os := os }
abbrev hd.p1 : Pos := { line := 17, col := 0, endLine := 21, endCol := 16 }
abbrev hd.p2 : Pos := { line := 22, col := 0, endLine := 72, endCol := 56 }
abbrev hd.p3 : Pos := { line := 91, col := 0, endLine := 100, endCol := 115 }
abbrev hd.p4 : Pos := { line := 137, col := 0, endLine := 174, endCol := 49 }
theorem pc_pre : ∀ w : World, (fun os => topGo treeTable pP w 11 (some (.ref 6)) 12 { heap := boot_heap w.params, gens := #[], drawn := boot_drawn, toks := boot_toks, os := os } (topStub pP)) = fun os => some (hd.at_ (hd.hA w.params) 187 os, { cur := denote treeTable hd.cE, code := hd.cE, pos := hd.q0, stack := [topFrame hd.q0] }) := fun w => by kernel_rfl
theorem pc_block : ∀ w : World, (fun os => segRun treeTable pP w 11 (some (.ref 6)) 1 1 (hd.at_ (hd.hA w.params) 187 os) (blockOf (behindTheImports pP) hd.env hd.cE hd.q0 [topFrame hd.q0])) = fun os => some (.next, hd.at_ (hd.hA w.params) 187 os, hd.cE, hd.q0) := fun w => by kernel_rfl
theorem pc_1 : ∀ w : World, (fun os => segRun treeTable pP w 11 (some (.ref 6)) 1 758 (hd.at_ (hd.hA w.params) 187 os) (piecesOf hd.l1 hd.env hd.cE hd.q0 [topFrame hd.q0])) = fun os => some (.next, hd.at_ (hd.hB w.params) 277 os, hd.cE, hd.p1) := fun w => by kernel_rfl
theorem pc_2 : ∀ w : World, (fun os => segRun treeTable pP w 11 (some (.ref 6)) 1 559 (hd.at_ (hd.hB w.params) 277 os) (piecesOf hd.l2 hd.env hd.cE hd.p1 [topFrame hd.q0])) = fun os => some (.next, hd.at_ (hd.hC w.params) 402 os, hd.cE, hd.p2) := fun w => by kernel_rfl
theorem pc_3 : ∀ w : World, (fun os => segRun treeTable pP w 11 (some (.ref 6)) 1 400 (hd.at_ (hd.hC w.params) 402 os) (piecesOf hd.l3 hd.env hd.cE hd.p2 [topFrame hd.q0])) = fun os => some (.next, hd.at_ (hd.hD w.params) 485 os, hd.cE, hd.p3) := fun w => by kernel_rfl
theorem pc_4 : ∀ w : World, (fun os => segRun treeTable pP w 11 (some (.ref 6)) 1 162 (hd.at_ (hd.hD w.params) 485 os) (piecesOf hd.l4 hd.env hd.cE hd.p3 [topFrame hd.q0])) = fun os => some (.next, hd.at_ (hd.hE w.params) 538 os, hd.cE, hd.p4) := fun w => by kernel_rfl
theorem pc_fin : ∀ w : World, (fun os => topRun treeTable pP w 11 (some (.ref 6)) 2 (hd.at_ (hd.hE w.params) 538 os) { cur := doneF .next, code := hd.cE, pos := hd.p4, stack := [topFrame hd.q0] }) = fun os => some (hd.at_ (hd.hE w.params) 538 os) := fun w => by kernel_rfl
theorem pc_body : behindTheImports pP = hd.l1 ++ (hd.l2 ++ (hd.l3 ++ (hd.l4 ++ []))) := by kernel_rfl
theorem rest_is {tb : String → Option Builtin} {p : Program} {w : World} {n₀ : Nat} {ann : Option Value} {env : Env} {q : Pos} {N : Nat} {s r : Shared} {b b' : List Stmt} {c : Code} {pos : Pos} (e : b = b') (k : topRun tb p w n₀ ann N s (restOf b' env c pos [topFrame q]) = some r) : topRun tb p w n₀ ann N s (restOf b env c pos [topFrame q]) = some r := e ▸ k
theorem hd_run (w : World) (os : OsState) : topRun treeTable pP w 11 (some (.ref 6)) (12 + (1 + (758 + (559 + (400 + (162 + 2)))))) { heap := boot_heap w.params, gens := #[], drawn := boot_drawn, toks := boot_toks, os := os } (topStub pP) = some (hd.at_ (hd.hE w.params) 538 os) :=
  go_top (congrFun (pc_pre w) os) (piece_block (congrFun (pc_block w) os) (rest_is pc_body (piece_app (congrFun (pc_1 w) os) (piece_app (congrFun (pc_2 w) os) (piece_app (congrFun (pc_3 w) os) (piece_app (congrFun (pc_4 w) os) (piece_nil (congrFun (pc_fin w) os))))))))
noncomputable abbrev hk : Hook := kHook Mine.hd.heap_39 Mine.hd.keys (fun _ => by kernel_rfl)
theorem hd_left : LeftO pP Mine.hd.view_39 [] (fun s => xlAt Mine.hd.view_39 [] s && recOk PySem.Challenge.rw_nm0113_01.row.records s) (Hook.obs hk) (Hook.val hk) 3872 true :=
  LeftO.of_pieces (boot_open (by kernel_rfl) (by decide) fun s => by kernel_rfl) (fun w => by kernel_rfl) hd_run (by decide +kernel) (fun w => by kernel_rfl)
end
section
abbrev excObj (C t : Addr) (dx : Option Addr) : Obj := { cls := .ref C, dict := dx, data := .fields #[.ref t, .none, .none, .none, .bool false, .none] }
abbrev tupObj (vs : List Value) : Obj := { cls := .type "tuple", data := .seq vs.toArray }
section
variable {prog : Program} {w : World} {A : Around} {R : Result → Shared → Prop} {E : Value → Shared → Prop} {h : Heap} {g : Array GenState} {d : Drawn} {t : Nat} {os : OsState}
variable {nm q : Str} {C N : Addr} {bs bm bmB : List Value} {hdct : Bool} {sn : List Str} {sub : List Value} {ab : Bool} {col : Option Bool} {dd : Option Addr} {k0 k1 k2 k3 k5 : Option Value} {B newId initId : String}
theorem check_new_own (F : ExcBaseFacts B newId initId bmB) (hB : bm.contains (.type B) = true) {M : Model} {rest : List Value} {Q : Unit → Shared → Prop} (hC : h.get? C = some (excClassObj nm q C N bs bm hdct sn sub ab col dd k0 k1 k2 k3 k5 newId))
    (hq : Q () ⟨h, g, d, t, os⟩) : wpAny M A (checkBuiltinCall newId ⟨.ref C :: rest, []⟩) Q E ⟨h, g, d, t, os⟩ := by
  have hcont : (Value.ref C :: bm).contains (.type B) = true := by rw [List.contains_cons, hB, Bool.or_true]
  have hstar := F.noStar
  simp only [checkBuiltinCall, F.newKind, F.newSplit, F.newRow]
  repeat (first | refine wpAny_loadPart_at hC ?_ | (refine wpAny_isSubtype_exc hC ?_; rw [hcont]) | refine wpAny_staticBase_exc hC ?_ | refine wpAny_madeBy_exc hC ?_ | simp only [bne_self_eq_false, Bool.false_eq_true, if_false] | wp_step)
  exact hq
theorem code_new_own (F : ExcBaseFacts B newId initId bmB) (hB : bm.contains (.type B) = true) (hA' : bm.contains (.type "AttributeError") = false) (hN' : bm.contains (.type "NameError") = false)
    {rest : List Value} (hC : h.get? C = some (excClassObj nm q C N bs bm hdct sn sub ab col dd k0 k1 k2 k3 k5 newId))
    (hq : R (.ok (.ret (.ref (h.objs.size + 1)))) ⟨(h.push (tupObj rest)).push (excObj C h.objs.size none), g, d, t, os⟩) (hrest : rest.length ≤ sizeLine := by size_fits) :
    codeAny (model prog w) A (.builtin newId ⟨.ref C :: rest, []⟩) R ⟨h, g, d, t, os⟩ := by
  have hends := F.ends
  have hcB : (Value.ref C :: bm).contains (.type B) = true := by rw [List.contains_cons, hB, Bool.or_true]
  have hcA : (Value.ref C :: bm).contains (.type "AttributeError") = false := by rw [List.contains_cons, hA']; rfl
  have hcN : (Value.ref C :: bm).contains (.type "NameError") = false := by rw [List.contains_cons, hN']; rfl
  refine codeAny_builtinAt F.entry ?_
  unfold Builtin.«BaseException.__new__»
  refine PySem.wpAt_bind ?_
  show PySem.wpAt _ _ _ (stack >>= _) _ _ _
  refine PySem.wpAt_bind (PySem.wpAt_stack fun p below => PySem.wpAt_of_wpAny ?_)
  wp_walk
  refine PySem.wpAt_of_wpAny ?_
  rw [F.owner]
  repeat (first | with_reducible refine wpAny_madeHere_exc F.canon hC ?_ | with_reducible refine wpAny_loadPart_at hC ?_ | (with_reducible refine wpAny_isSubtype_exc hC ?_; first | rw [hcB] | rw [hcA] | rw [hcN]) | wp_step)
  show R _ _
  rw [Heap.size_push]
  exact hq
end
section
variable {prog : Program} {w : World} {A : Around} {E : Value → Shared → Prop} {s : Shared} {K : Frag} {h₀ : Heap} {L : Addr} {m : Str → Option Value} {news : List (Addr × Obj)}
variable {nm q : Str} {C NN : Addr} {bs bm bmB : List Value} {hdct : Bool} {sn : List Str} {sub : List Value} {ab : Bool} {col : Option Bool} {dd : Option Addr} {k0 k1 k2 k3 k5 : Option Value} {B newId initId : String}
theorem type_call_own (FB : ExcBaseFacts B newId initId bmB) (hB : bm.contains (.type B) = true) (hA' : bm.contains (.type "AttributeError") = false) (hN' : bm.contains (.type "NameError") = false)
    {v : Value} {fI : Addr} {Q : PySem.Fin → Shared → Prop} {h : Heap} {g : Array GenState} {d : Drawn} {tk : Nat} {os : OsState} (F : Fr h₀ L h m) (N : News h₀ L h news) (X : K.In h)
    (hC : h.get? C = some (excClassObj nm q C NN bs bm hdct sn sub ab col dd k0 k1 k2 k3 k5 newId))
    (hi : findIn K (.ref C) "__init__" = some (some (.ref fI))) (hf : typeIn K (.ref fI) = some (.type "function"))
    (hq : ∀ e t h', Fr h₀ L h' m → News h₀ L h' ((e, excObj C t none) :: (t, tupObj [v]) :: news) → (∀ p ∈ news, p.1 < t) → t < e →
      wpAny (model prog w) A (call (.ref fI) [.ref e, v]) (fun r s' => r = .none ∧ Q (.done (.ret (.ref e))) s') E ⟨h', g, d, tk, os⟩) :
    wpAny (model prog w) A (Builtin.«type.__call__» ⟨.ref C :: [v], []⟩) Q E ⟨h, g, d, tk, os⟩ := by
  repeat (first | with_reducible refine wpAny_loadPart_at hC ?_ | with_reducible refine wpAny_madeBy_exc hC ?_ | wp_step)
  refine codeAny_call_builtin_code (Code.quiet_builtin _ FB.quiet) (check_new_own FB hB hC ?_)
  refine code_new_own FB hB hA' hN' hC ?_
  show wpAny _ _ _ _ _ _
  have keep : ∀ b o, h.get? b = some o → ((h.push (tupObj [v])).push (excObj C h.objs.size none)).get? b = some o := fun b o e => Heap.get?_push_of_some _ (Heap.get?_push_of_some _ e)
  have hC₁ := keep _ _ hC
  have X₁ : K.In ((h.push (tupObj [v])).push (excObj C h.objs.size none)) := fun b o e => keep _ _ (X b o e)
  have hget : ((h.push (tupObj [v])).push (excObj C h.objs.size none)).get? (h.objs.size + 1) = some (excObj C h.objs.size none) := by heap_get
  have hcC : (Value.ref C :: bm).contains (.ref C) = true := by simp
  unfold isInstance
  repeat (first | (with_reducible refine wpAny_loadPart_at hget ?_; dsimp only [excObj]) | (with_reducible refine wpAny_isSubtype_exc hC₁ ?_; rw [hcC]) | wp_step)
  show wpAny _ _ (typeLookup (.ref C) _) _ _ _
  refine (looks_findIn X₁ hi).at ?_
  refine wpAny_holding (wpAny_bind ((bind_fn X₁ _ hf).at ?_))
  refine wpAny_bind (wpAny_mono (hq (h.objs.size + 1) h.objs.size _ ((F.push _).push _) ?_ (fun p hp => Heap.lt_size (N p hp).1) (Nat.lt_succ_self _)) (fun r s' hr => ?_) fun _ _ x => x)
  · have := (N.push F (tupObj [v])).push (F.push _) (excObj C h.objs.size none)
    rwa [Heap.size_push] at this
  · obtain ⟨rfl, hQ⟩ := hr
    wp_walk
    exact hQ
/-- An own exception class with an `__init__` of the program's, found on any of its bases. -/
theorem call_exc_own (FB : ExcBaseFacts B newId initId bmB) (hB : bm.contains (.type B) = true) (hA' : bm.contains (.type "AttributeError") = false) (hN' : bm.contains (.type "NameError") = false)
    {v : Value} {fI : Addr} {Q : Value → Shared → Prop} (F : Fr h₀ L s.heap m) (N : News h₀ L s.heap news) (X₀ : K.In h₀)
    (hK : K.lookup C = some (excClassObj nm q C NN bs bm hdct sn sub ab col dd k0 k1 k2 k3 k5 newId))
    (hi : findIn K (.ref C) "__init__" = some (some (.ref fI))) (hf : typeIn K (.ref fI) = some (.type "function"))
    (hq : ∀ e t h', Fr h₀ L h' m → News h₀ L h' ((e, excObj C t none) :: (t, tupObj [v]) :: news) → (∀ p ∈ news, p.1 < t) → t < e →
      wpAny (model prog w) (A.under (.builtin "type.__call__" ⟨.ref C :: [v], []⟩)) (call (.ref fI) [.ref e, v]) (fun r s' => r = .none ∧ Q (.ref e) s') E { s with heap := h' }) :
    wpAny (model prog w) A (call (.ref C) [v]) Q E s := by
  have X := X₀.keeps F.keep
  have hC := X _ _ hK
  obtain ⟨h, g, d, tk, os⟩ := s
  dsimp only at F N X hC
  have f1 := tc_lookup
  have f2 := tc_bind (.ref C)
  have hT : (⟨h, g, d, tk, os⟩ : Shared).TypeIs (.ref C) "type" := ⟨_, hC, rfl⟩
  refine wpAny_call (codeAny_of_tree ?_)
  show wpAny _ _ (callAny (.ref C) _) _ _ _
  repeat (any_goals (first | assumption | with_reducible refine wpAny_loadPart_at hC ?_ | wp_step))
  refine ⟨rfl, ?_⟩
  exact codeAny_call_builtin_at (Code.quiet_builtin _ (by decide +kernel)) entry_typeCall (wpAny_check_type_call_sub hC (type_call_own FB hB hA' hN' F N X hC hi hf hq))
end
end
section
open Builtin Builtin.ObjectAttr
section
variable {prog : Program} {w : World} {A : Around} {E : Value → Shared → Prop} {s : Shared} {K : Frag} {h₀ : Heap} {L : Addr} {m : Str → Option Value} {news : List (Addr × Obj)}
variable {nm q : Str} {C NN e t : Addr} {bs bm bmB : List Value} {hdct : Bool} {sn : List Str} {sub : List Value} {ab : Bool} {col : Option Bool} {dd : Option Addr} {k0 k1 k2 k3 k5 : Option Value} {B newId initId : String}
theorem check_init_own (F : ExcBaseFacts B newId initId bmB) (hB : bm.contains (.type B) = true) {M : Model} {h : Heap} {g : Array GenState} {d : Drawn} {tk : Nat} {os : OsState} {oe : Obj} {rest : List Value} {Q : Unit → Shared → Prop}
    (hC : h.get? C = some (excClassObj nm q C NN bs bm hdct sn sub ab col dd k0 k1 k2 k3 k5 newId)) (he : h.get? e = some oe) (hcls : oe.cls = .ref C) (hq : Q () ⟨h, g, d, tk, os⟩) :
    wpAny M A (checkBuiltinCall initId ⟨.ref e :: rest, []⟩) Q E ⟨h, g, d, tk, os⟩ := by
  have hcB : (Value.ref C :: bm).contains (.type B) = true := by rw [List.contains_cons, hB, Bool.or_true]
  have hshort := F.noStar
  simp only [checkBuiltinCall, F.initKind, F.initSplit, F.initRow]
  repeat (first | (with_reducible refine wpAny_loadPart_at he ?_; rw [hcls]) | with_reducible refine wpAny_loadPart_at hC ?_ | (with_reducible refine wpAny_isSubtype_exc hC ?_; rw [hcB]) | wp_step)
  refine wpAny_onRaise ?_
  rw [show ∀ (a b : String) (n : Nat), Bind.check ⟨.positional, "*", B, .self, [⟨"args", .varPos, false⟩]⟩ a b n (List.map (fun x => x.fst) ({ pos := Value.ref e :: rest } : Args).kw) = pure () from
    fun a b n => check_star_args _ _ _ _ _ _]
  exact wpAny_pure hq
theorem call_exc_init (FB : ExcBaseFacts B newId initId bmB) (hB : bm.contains (.type B) = true) {v : Value} {Q : Value → Shared → Prop} (F : Fr h₀ L s.heap m) (N : News h₀ L s.heap ((e, excObj C t none) :: news)) (hne : ∀ p ∈ news, p.1 ≠ e) (X₀ : K.In h₀)
    (hK : K.lookup C = some (excClassObj nm q C NN bs bm hdct sn sub ab col dd k0 k1 k2 k3 k5 newId))
    (h : ∀ h' t2, Fr h₀ L h' m → News h₀ L h' ((e, excObj C t2 none) :: (t2, tupObj [v]) :: news) → e < t2 → (∀ p ∈ news, p.1 < t2) → Q .none { s with heap := h' }) :
    wpAny (model prog w) A (call (.builtin initId) [.ref e, v]) Q E s := by
  have hC := (X₀.keeps F.keep) _ _ hK
  have he := (N _ (.head _)).1
  obtain ⟨hp, g, d, tk, os⟩ := s
  dsimp only at F N hC he
  refine wpAny_call (codeAny_call_builtin FB.init.plain FB.initEntry (check_init_own FB hB hC he rfl ?_))
  unfold Builtin.«BaseException.__init__»
  dsimp only
  rw [if_neg (by simp)]
  unfold newTuple Builtin.BaseException.bexcPut
  have he₁ := Heap.get?_push_of_some (h := hp) (tupObj [v]) he
  have N₁ := N.push F (tupObj [v])
  have F₁ := F.push (tupObj [v])
  have hlt : e ≠ hp.objs.size := Nat.ne_of_lt (Heap.lt_size he)
  refine wpAny_bind (wpAny_newObj_type (wpAny_bind (wpAny_bind (wpAny_field he₁ rfl rfl (wpAny_bind (wpAny_setField he₁ rfl (by show 0 < 6; decide) ?_))))) (by size_fits))
  refine wpAny_letGo (wpAny_pure ?_)
  obtain ⟨U1, U2⟩ := news_upd (pre := [(hp.objs.size, tupObj [v])]) (post := news) (d := e) (o := excObj C t none) (o' := excObj C hp.objs.size none) (f := Obj.mapFields (·.setIfInBounds 0 (.ref hp.objs.size))) F₁
    (by simpa using N₁) (by intro p hp' z; rw [List.mem_singleton.mp hp'] at z; exact hlt z.symm) hne rfl rfl
  exact h _ hp.objs.size U1 (fun p hp' => U2 p (by simp only [List.mem_cons, List.mem_append, List.not_mem_nil, or_false] at hp' ⊢; rcases hp' with r | r | r <;> simp [r])) (Heap.lt_size he) (fun p hp' => Heap.lt_size (N p (.tail _ hp')).1)
theorem set_exc_fresh {name : Str} {v : Value} {Q : Unit → Shared → Prop} (F : Fr h₀ L s.heap m) (N : News h₀ L s.heap ((e, excObj C t none) :: news)) (hne : ∀ p ∈ news, p.1 ≠ e) (X₀ : K.In h₀)
    (hK : K.lookup C = some (excClassObj nm q C NN bs bm true sn sub ab col dd k0 k1 k2 k3 k5 newId))
    (hs : findIn K (.ref C) "__setattr__" = some (some (.builtin "object.__setattr__"))) (ha : findIn K (.ref C) name = some none)
    (hp : ∀ self, refuseLoop self "__setattr__" bm = pure ()) (hob : bm.contains (.type "object") = true)
    (h : ∀ h' dx, Fr h₀ L h' m → News h₀ L h' ((e, excObj C t (some dx)) :: (dx, dictOf [⟨PyData.keyHash w.params name, .str name (s.toks + 1), v⟩] 1) :: news) → e < dx → (∀ p ∈ news, p.1 < dx) → Q () { s with heap := h', toks := s.toks + 2 }) :
    wpAny (model prog w) A (setAttr (.ref e) name v) Q E s := by
  have X := X₀.keeps F.keep
  have hC := X _ _ hK
  have he := (N _ (.head _)).1
  have I : InstAt s.heap e (excObj C t none) C none := ⟨he, rfl, rfl, trivial⟩
  have SF := PySem.F.store_object
  refine set_plain X I hs ?_
  have clsC : clsIn K C = some { name := nm, bases := bs, mro := .ref C :: bm, ns := NN, qualname := q, hasDict := true, slotNames := sn, subclasses := sub, abstract := ab, collection := col, hasDel := false } := by
    unfold clsIn; rw [hK]
  have sub' : Looks (model prog w) s.heap (isInstance (.ref e) (.type "object")) true := I.type.andThen (looks_mroIn X (by
    unfold mroIn; rw [clsC, Option.bind_some, if_neg (by simp)]; dsimp only; rw [List.contains_cons, hob, Bool.or_true]))
  refine codeAny_call_builtin SF.slot.plain SF.entry (@check_slot (model prog w) _ _ { s with toks := s.toks + 1 } "object.__setattr__" "object" "__setattr__" (.ref e) [.str name s.toks, v] [] _ SF.kind SF.split sub' (SF.args (.ref e) (.str name s.toks) v) ?_)
  have hm : Looks (model prog w) s.heap (mroOf (.ref C)) (.ref C :: bm) := (looks_clsIn X clsC).andThen .now
  rw [osa_eq, refuse_eq]
  have LA := looks_findIn (M := model prog w) X ha
  have LT := I.type (M := model prog w)
  refine wpAny_bind (wpAny_bind (LT.at (wpAny_bind (hm.at ?_))))
  rw [refuseLoop_ref, hp]
  refine wpAny_pure (wpAny_bind (LT.at (wpAny_bind (LA.at (wpAny_bind (wpAny_pure ?_))))))
  have LC := looks_clsIn (M := model prog w) X clsC
  obtain ⟨hh, g, d, tk, os⟩ := s
  dsimp only at F N X hC he I h ⊢
  have F₁ := F.push emptyDict
  have N₁ := N.push F emptyDict
  have he₁ := Heap.get?_push_of_some (h := hh) emptyDict he
  have hlt : e ≠ hh.objs.size := Nat.ne_of_lt (Heap.lt_size he)
  obtain ⟨U1, U2⟩ := news_upd (pre := [(hh.objs.size, emptyDict)]) (post := news) (d := e) (o := excObj C t none) (o' := excObj C t (some hh.objs.size)) (f := fun o => { o with dict := some hh.objs.size }) F₁
    (by simpa using N₁) (by intro p hp' z; rw [List.mem_singleton.mp hp'] at z; exact hlt z.symm) hne rfl rfl
  have hltn : ∀ p ∈ ((e, excObj C t (some hh.objs.size)) :: news), p.1 ≠ hh.objs.size := by
    intro p hp' z
    rcases List.mem_cons.mp hp' with r | r
    · rw [r] at z; exact hlt z
    · exact absurd (Heap.lt_size (N p (.tail _ r)).1) (by rw [z]; exact Nat.lt_irrefl _)
  obtain ⟨V1, V2⟩ := news_upd (pre := []) (post := (e, excObj C t (some hh.objs.size)) :: news) (d := hh.objs.size) (o := emptyDict) (f := Obj.putName name (PyData.keyHash w.params name) (.str name (tk + 1)) v) (o' := dictOf [⟨PyData.keyHash w.params name, .str name (tk + 1), v⟩] 1) U1
    U2 (by intro p hp'; cases hp') hltn (by show Obj.putName _ _ _ _ (dictOf [] 0) = _; rw [putName_dict]; rfl) rfl
  have D : (hh.push emptyDict |>.update e fun o => { o with dict := some hh.objs.size }).get? hh.objs.size = some emptyDict := (U2 _ (List.mem_append_left _ (.head _))).1
  have D' := (V2 (hh.objs.size, dictOf [⟨PyData.keyHash w.params name, .str name (tk + 1), v⟩] 1) (List.mem_append_right _ (.head _))).1
  refine wpAny_bind (wpAny_pure (wpAny_bind (wpAny_bind (wpAny_loadPart he (wpAny_bind (LC.at ?_))))))
  dsimp only
  refine wpAny_bind (wpAny_alloc' (wpAny_bind (wpAny_update' he₁ (wpAny_pure ?_))))
  refine wpAny_bind (wpAny_pure (wpAny_bind ?_))
  unfold nsSet
  refine wpAny_bind (wpAny_bind (wpAny_askSetting (wpAny_pure (wpAny_bind (wpAny_mkText (wpAny_bind (wpAny_loadPart D ?_)))))))
  dsimp only
  rw [if_neg (by rw [aRefKeyMayBeTheName_at]; simp)]
  refine wpAny_updatePart D ?_
  refine wpAny_bind (wpAny_lookBehind D' (by exact pastItsLine_dict (by simp [sizeLine_eq])) ?_)
  exact wpAny_pure (h _ hh.objs.size V1 (fun p hp' => V2 p (by simp only [List.mem_cons, List.nil_append] at hp' ⊢; rcases hp' with r | r | r <;> simp [r])) (Heap.lt_size he) (fun p hp' => Heap.lt_size (N p (.tail _ hp')).1))
end
end
def Tel (w : World) (f : Addr) (dd uu : Nat) (args : List Value) (news : List (Addr × Obj)) (Out : Value → List (Addr × Obj) → Prop) : Prop :=
  ∀ (mean : ExcName → Option Value) (mg mb : Str → Option Value) (dp un : Nat) (gd : Option (List Code)) (cn : Str) (cs : Scope) (a : Addr) (ccd : Value) (cl : List (Str × Addr)) (outer : List Env) (A₀ : Around) (base h₀ : Heap) (L : Addr) (m : Str → Option Value) (s : Shared) (Q E : Value → Shared → Prop),
    Below A₀ base outer h₀ → Fr h₀ L s.heap m → (Mine.hd.heap_39 w.params).In h₀ → News h₀ L s.heap news → Top Mine.hd.view_39 (looseW Mine.hd.view_39 []) mean mg mb h₀ → cs.kind = .function → dp + dd < recursionLimit → un + uu < cLine →
    (∀ r news' h' tk', Fr h₀ L h' m → News h₀ L h' news' → Out r news' → Q r { s with heap := h', toks := tk' }) →
    wpAny (model PySem.Challenge.rw_nm0113_01.row.prog w) (ktrTop dp un gd cn cs L a ccd cl outer) (call (.ref f) args) Q E s
section
def MadeX (C : Addr) (v : Value) (hw : Int) (news : List (Addr × Obj)) (r : Value) (news' : List (Addr × Obj)) : Prop :=
  ∃ e dx t2 k rest, r = .ref e ∧ news' = (e, excObj C t2 (some dx)) :: (dx, dictOf [⟨hw, .str "why" k, v⟩] 1) :: rest ∧ (∀ p ∈ news, p ∈ rest) ∧ e < dx ∧ (∀ p ∈ rest, p.1 < dx) ∧ (∀ p ∈ rest, p.1 ≠ e) ∧ (∀ p ∈ news, p.1 < e)
theorem exc_type : typeOf (.type "Exception") = pure (.type "type") := by first | rfl | kernel_rfl
def AllNe (news : List (Addr × Obj)) (e : Addr) : Prop := ∀ p ∈ news, p.1 ≠ e
theorem AllNe.cons {news : List (Addr × Obj)} {e a : Addr} {o : Obj} (h : AllNe news e) (n : e < a) : AllNe ((a, o) :: news) e := fun p hp => by
  rcases List.mem_cons.mp hp with rfl | hp
  · exact Nat.ne_of_gt n
  · exact h p hp
theorem AllNe.made {news : List (Addr × Obj)} {e t : Addr} {o : Obj} (l1 : ∀ p ∈ news, p.1 < t) (l2 : t < e) : AllNe ((t, o) :: news) e := fun p hp => by
  rcases List.mem_cons.mp hp with rfl | hp
  · exact Nat.ne_of_lt l2
  · exact Nat.ne_of_lt (Nat.lt_trans (l1 p hp) l2)
local macro_rules | `(tactic| walk_at "getMethod type:Exception") => `(tactic| (k_here; refine' method_type ?F ?X ?m (by decide +kernel) ?e ?h ?_; (case F => k_asm); (case X => k_asm); (case m => exact exc_type); (case e => k_dflt k_is); (case h => k_handed)))
local macro_rules | `(tactic| walk_at "call builtin:Exception.__init__") => `(tactic| (k_here; k_dflt (refine' call_exc_init PySem.F.excBase_Exception ?b ?F ?N ?ne ?X ?K ?_; (case F => k_asm); (case N => k_asm); (case X => k_asm); (case K => k_is); (case b => decide); (case ne => (repeat' (first | assumption | refine AllNe.cons ?_ ?_)))); intro h' t' F' N' l1 l2))
local macro_rules | `(tactic| walk_at "setAttr ref") => `(tactic| (k_here; k_dflt (refine' set_exc_fresh ?F ?N ?ne ?X ?K ?s ?a ?p ?o ?_; (case F => k_asm); (case N => k_asm); (case X => k_asm); (case K => k_is); (case ne => (repeat' (first | assumption | refine AllNe.cons ?_ ?_))); (case s => k_is); (case a => k_is); (case o => decide)); skip))
set_option maxHeartbeats 1000000 in
theorem trap_made (w : World) (v : Value) (news) : Tel w 44 10 40 [v] news (MadeX 44 v (PyData.keyHash w.params "why") news) := by
  unfold Tel
  intro mean mg mb dp un gd cn cs a ccd cl outer A₀ base h₀ L m s Q E B F X N T hkd hdp hun hret
  revert X; k_fill; intro X
  k_dflt (refine' call_exc_own PySem.F.excBase_Exception ?a1 ?a2 ?a3 F N X ?a4 ?a5 ?a6 ?_)
  case a4 => k_is
  case a1 => decide
  case a2 => decide
  case a3 => decide
  case a5 => k_is
  case a6 => k_is
  intro e t h' F1 N1 l1 l2
  have hne := AllNe.made (o := tupObj [v]) l1 l2
  refine wpAny_call ?_
  k_dflt ktr_enter
  k_steps
  exact hret _ _ _ _ (by k_asm) (by k_asm) ⟨_, _, _, _, _, rfl, rfl, fun p hp => .tail _ (.tail _ hp), by assumption, by assumption, AllNe.cons hne (by assumption), fun p hp => Nat.lt_trans (l1 p hp) l2⟩
set_option maxHeartbeats 1000000 in
theorem misused_made (w : World) (v : Value) (news) : Tel w 56 10 40 [v] news (MadeX 56 v (PyData.keyHash w.params "why") news) := by
  unfold Tel
  intro mean mg mb dp un gd cn cs a ccd cl outer A₀ base h₀ L m s Q E B F X N T hkd hdp hun hret
  revert X; k_fill; intro X
  k_dflt (refine' call_exc_own PySem.F.excBase_Exception ?a1 ?a2 ?a3 F N X ?a4 ?a5 ?a6 ?_)
  case a4 => k_is
  case a1 => decide
  case a2 => decide
  case a3 => decide
  case a5 => k_is
  case a6 => k_is
  intro e t h' F1 N1 l1 l2
  have hne := AllNe.made (o := tupObj [v]) l1 l2
  refine wpAny_call ?_
  k_dflt ktr_enter
  k_steps
  exact hret _ _ _ _ (by k_asm) (by k_asm) ⟨_, _, _, _, _, rfl, rfl, fun p hp => .tail _ (.tail _ hp), by assumption, by assumption, AllNe.cons hne (by assumption), fun p hp => Nat.lt_trans (l1 p hp) l2⟩
end
theorem rs_j1_1 {M : Model} {A : Around} {E : Value → Shared → Prop} {env : Env} {s : Shared} {Q : Flow → Shared → Prop} (h : Q .next s) : wpAny M A (execs [] env) Q E s := by
  walk1
  exact h
section
def TrD (h B : Heap) (e C dx : Addr) (fl : Value) : Prop :=
  ∃ vs T oT ts sl, h.get? e = some { cls := .ref C, dict := some dx, data := .fields vs, slots := sl } ∧ vs[1]? = some (.ref T) ∧ B.get? T = none ∧ T ≠ e ∧ h.get? T = some oT ∧ oT.data = .fields ts ∧ ts[3]? = some fl
def FlyD (B : Heap) (l : List Env) (e C dx : Addr) (fl : Value) (h : Heap) : Prop := B.StaysIn h ∧ B.get? e = none ∧ h.FunFrames B l ∧ TrD h B e C dx fl
section
variable {M : Model} {A : Around} {E : Value → Shared → Prop} {s : Shared}
theorem entryD {B : Heap} {env : Env} {outer : List Env} {L e C dx : Addr} {vs : Array Value} {sl : Array (Option Value)} {head : Value} {hadNext : Bool} {Q : Unit → Shared → Prop}
    (hfr : A.frames = some (env :: outer)) (hl : s.heap.FunFrames B (env :: outer)) (hf : env.frame = some L)
    (he : s.heap.get? e = some { cls := .ref C, dict := some dx, data := .fields vs, slots := sl }) (hkb : B.StaysIn s.heap) (hen : B.get? e = none) (hsz : 1 < vs.size)
    (h : ∀ h', FlyD B (env :: outer) e C dx (rawInt L) h' → s.heap.UpToSlots h' → Q () { s with heap := h' }) :
    wpAny M A (do let a ← frameOf env; let pl ← entryPlaceOf L hadNext; let b ← EntryCells.newEntry head a .none (rawInt L) .none pl; setField (.ref e) 1 b) Q E s := by
  have notFrame : e ∉ (env :: outer).filterMap (·.frame) := fun hm => by
    obtain ⟨_, o, ho, hnf⟩ := hl.mem hm
    rw [he] at ho; cases ho; exact hnf vs rfl
  refine wpAny_bind (wpAny_frameOf_fun hfr hl hf fun h₁ hs₁ => wpAny_bind (wpAny_entryPlaceOf fun pl hpl => ?_))
  unfold EntryCells.newEntry newFields
  refine wpAny_bind (wpAny_newObj_type ?_ (hpl.sizeOk5 _ _ _ _ _))
  have he₁ := (hs₁.2.1 e notFrame).trans he
  have kb₁ : B.StaysIn h₁ := fun b o hbo => (hs₁.2.1 b fun hm => by rw [(hl.mem hm).1] at hbo; cases hbo).trans (hkb b o hbo)
  generalize hTo : ({ cls := .type "traceback", dict := none, data := .fields ([head, .ref L, .none, rawInt L, .none] ++ (if pl.isEmpty then List.replicate 6 Value.none else pl)).toArray } : Obj) = To
  have hTd : ∃ ts, To.data = .fields ts ∧ ts[3]? = some (rawInt L) := ⟨_, by rw [← hTo], by first | (simp; done) | (rcases hpl with rfl | ⟨_, _, _, _, _, _, _, rfl⟩ <;> simp)⟩
  have hTf : To.isFreed = false := by rw [← hTo]; rfl
  have he₂ := Heap.get?_push_of_some (h := h₁) To he₁
  have hTe : h₁.objs.size ≠ e := Nat.ne_of_gt (Heap.lt_size he₁)
  refine wpAny_setField he₂ rfl hsz (h _ ?_ ?_)
  all_goals
    have other : ∀ b o, b ≠ e → h₁.get? b = some o → ((h₁.push To).update e (Obj.mapFields (·.setIfInBounds 1 (Value.ref h₁.objs.size)))).get? b = some o := fun b o hb q => by
      rw [Heap.get?_update_other _ _ (Ne.symm hb)]
      exact Heap.get?_push_of_some _ q
    have noRec : ∀ b o, s.heap.get? b = some o → (∀ vs, o.data ≠ .fields vs) → b ≠ e := fun b o hb hnf q => by
      rw [q, he] at hb; cases hb; exact hnf vs rfl
  · refine ⟨fun b o hbo => other b o (fun q => by rw [q, hen] at hbo; cases hbo) (kb₁ b o hbo), hen, hl.of_keeps fun b o hb hnf => ?_, ?_⟩
    · obtain ⟨sl', hs⟩ := hs₁.2.2 b o hb
      exact ⟨_, other b _ (noRec b o hb hnf) hs, rfl⟩
    · obtain ⟨ts, hts, ht3⟩ := hTd
      refine ⟨vs.setIfInBounds 1 (.ref h₁.objs.size), h₁.objs.size, To, ts, sl, ?_, by simp [hsz], kb₁.fresh, hTe, ?_, hts, ht3⟩
      · rw [Heap.get?_update_self _ he₂ rfl]; rfl
      · rw [Heap.get?_update_other _ _ (Ne.symm hTe)]
        exact Heap.get?_push_size _ hTf
  · intro b o hb hnf
    obtain ⟨sl', hs⟩ := hs₁.2.2 b o hb
    exact ⟨sl', other b _ (noRec b o hb hnf) hs⟩
theorem landD {B : Heap} {l : List Env} {e C dx : Addr} {fl : Value} {Q : Unit → Shared → Prop} (hh : FlyD B l e C dx fl s.heap)
    (h : ∀ h', FlyD B l e C dx .none h' → s.heap.UpToSlots h' → Q () { s with heap := h' }) : wpAny M A (setFlight (.ref e) none) Q E s := by
  obtain ⟨hkb, hen, hl, vs, T, oT, ts, sl, he, h1, hnT, hTe, hT, hdT, h3⟩ := hh
  have hsz3 : 3 < ts.size := (Array.getElem?_eq_some_iff.mp h3).1
  have other : ∀ b, b ≠ T → (s.heap.update T (Obj.mapFields (·.setIfInBounds 3 ((none : Option Addr).elim Value.none fun f => rawInt f)))).get? b = s.heap.get? b :=
    fun b hb => Heap.get?_update_other _ _ (Ne.symm hb)
  have noRec : ∀ b o, s.heap.get? b = some o → (∀ vs, o.data ≠ .fields vs) → b ≠ T := fun b o hb hnf q => by
    rw [q, hT] at hb; cases hb; exact hnf ts hdT
  unfold setFlight
  refine wpAny_bind (wpAny_field he rfl h1 ?_)
  rw [if_pos (show (Value.ref T != Value.none) = true from by simp)]
  refine wpAny_setField hT hdT hsz3 (h _ ⟨fun b o hbo => (other b fun q => by rw [q, hnT] at hbo; cases hbo).trans (hkb b o hbo), hen, hl.of_keeps fun b o hb hnf => ⟨o, (other b (noRec b o hb hnf)).trans hb, rfl⟩, ?_⟩
    fun b o hb hnf => ⟨o.slots, (other b (noRec b o hb hnf)).trans hb⟩)
  exact ⟨vs, T, _, _, sl, (other e (Ne.symm hTe)).trans he, h1, hnT, hTe, Heap.get?_update_self _ hT (Obj.isFreed_of_fields (Obj.data_mapFields hdT _)), Obj.data_mapFields hdT _, by simp [hsz3]⟩
theorem noteD_first {B : Heap} {env : Env} {outer : List Env} {L e C dx : Addr} {vs : Array Value} {sl : Array (Option Value)} {Q : Unit → Shared → Prop}
    (hfr : A.frames = some (env :: outer)) (hl : s.heap.FunFrames B (env :: outer)) (hf : env.frame = some L)
    (he : s.heap.get? e = some { cls := .ref C, dict := some dx, data := .fields vs, slots := sl }) (hkb : B.StaysIn s.heap) (hen : B.get? e = none) (h1 : vs[1]? = some .none)
    (h : ∀ h', FlyD B (env :: outer) e C dx (rawInt L) h' → s.heap.UpToSlots h' → Q () { s with heap := h' }) : wpAny M A (noteFrame (.ref e) env) Q E s := by
  unfold noteFrame
  simp only [hf]
  refine wpAny_bind (wpAny_field he rfl h1 ?_)
  rw [if_neg (by decide)]
  exact entryD hfr hl hf he hkb hen (Array.getElem?_eq_some_iff.mp h1).1 h
theorem noteD_next {B : Heap} {env : Env} {outer : List Env} {L e C dx : Addr} {Q : Unit → Shared → Prop}
    (hfr : A.frames = some (env :: outer)) (hf : env.frame = some L) (hh : FlyD B (env :: outer) e C dx .none s.heap)
    (h : ∀ h', FlyD B (env :: outer) e C dx (rawInt L) h' → s.heap.UpToSlots h' → Q () { s with heap := h' }) : wpAny M A (noteFrame (.ref e) env) Q E s := by
  obtain ⟨hkb, hen, hl, vs, T, oT, ts, sl, he, h1, hnT, hTe, hT, hdT, h3⟩ := hh
  unfold noteFrame
  simp only [hf]
  refine wpAny_bind (wpAny_field he rfl h1 ?_)
  rw [if_pos (show (Value.ref T != Value.none) = true from by simp)]
  refine wpAny_bind (wpAny_field hT hdT h3 ?_)
  rw [if_neg (show ¬ ((Value.none == rawInt L) = true) from by simp [rawInt])]
  refine wpAny_bind (wpAny_setField hT hdT (Array.getElem?_eq_some_iff.mp h3).1 ?_)
  have other : ∀ b, b ≠ T → (s.heap.update T (Obj.mapFields (·.setIfInBounds 3 Value.none))).get? b = s.heap.get? b := fun b hb => Heap.get?_update_other _ _ (Ne.symm hb)
  have noRec : ∀ b o, s.heap.get? b = some o → (∀ vs, o.data ≠ .fields vs) → b ≠ T := fun b o hb hnf q => by
    rw [q, hT] at hb; cases hb; exact hnf ts hdT
  refine entryD hfr (hl.of_keeps fun b o hb hnf => ⟨o, (other b (noRec b o hb hnf)).trans hb, rfl⟩) hf ((other e (Ne.symm hTe)).trans he)
    (fun b o hbo => (other b fun q => by rw [q, hnT] at hbo; cases hbo).trans (hkb b o hbo)) hen (Array.getElem?_eq_some_iff.mp h1).1
    fun h' x1 x2 => h h' x1 fun b o hb hnf => x2 b o ((other b (noRec b o hb hnf)).trans hb) hnf
theorem noteD_again {B : Heap} {env : Env} {l : List Env} {L e C dx : Addr} {Q : Unit → Shared → Prop} (hf : env.frame = some L) (hh : FlyD B l e C dx (rawInt L) s.heap) (h : Q () s) :
    wpAny M A (noteFrame (.ref e) env) Q E s := by
  obtain ⟨hkb, hen, hl, vs, T, oT, ts, sl, he, h1, hnT, hTe, hT, hdT, h3⟩ := hh
  unfold noteFrame
  simp only [hf]
  refine wpAny_bind (wpAny_field he rfl h1 ?_)
  rw [if_pos (show (Value.ref T != Value.none) = true from by simp)]
  refine wpAny_bind (wpAny_field hT hdT h3 ?_)
  rw [if_pos (show (rawInt L == rawInt L) = true from by simp)]
  exact wpAny_pure h
theorem FlyD.tail {B : Heap} {env : Env} {outer : List Env} {e C dx : Addr} {fl : Value} {h : Heap} (x : FlyD B (env :: outer) e C dx fl h) : FlyD B outer e C dx fl h :=
  let ⟨a, b, ⟨_, _, c⟩, d⟩ := x; ⟨a, b, c, d⟩
theorem leaveD_first {B : Heap} {env : Env} {outer : List Env} {L e C dx : Addr} {vs : Array Value} {sl : Array (Option Value)} {Q : Unit → Shared → Prop}
    (hfr : A.frames = some (env :: outer)) (hl : s.heap.FunFrames B (env :: outer)) (hf : env.frame = some L)
    (he : s.heap.get? e = some { cls := .ref C, dict := some dx, data := .fields vs, slots := sl }) (hkb : B.StaysIn s.heap) (hen : B.get? e = none) (h1 : vs[1]? = some .none)
    (h : ∀ h', FlyD B outer e C dx .none h' → s.heap.UpToSlots h' → Q () { s with heap := h' }) : wpAny M A (leaving env (.ref e)) Q E s := by
  unfold leaving
  exact wpAny_bind (noteD_first hfr hl hf he hkb hen h1 fun h₁ x1 u1 => landD x1 fun h₂ x2 u2 => h h₂ x2.tail (u1.trans u2))
theorem leaveD_next {B : Heap} {env : Env} {outer : List Env} {L e C dx : Addr} {Q : Unit → Shared → Prop}
    (hfr : A.frames = some (env :: outer)) (hf : env.frame = some L) (hh : FlyD B (env :: outer) e C dx .none s.heap)
    (h : ∀ h', FlyD B outer e C dx .none h' → s.heap.UpToSlots h' → Q () { s with heap := h' }) : wpAny M A (leaving env (.ref e)) Q E s := by
  unfold leaving
  exact wpAny_bind (noteD_next hfr hf hh fun h₁ x1 u1 => landD x1 fun h₂ x2 u2 => h h₂ x2.tail (u1.trans u2))
end
/-- the exception is on its way: the ledger stands, its dict too -/
def RaisedX (base : Heap) (l : List Env) (e C : Addr) (v : Value) (hw : Int) (news : List (Addr × Obj)) (h : Heap) : Prop :=
  ∃ B dx k, base.StaysIn B ∧ (∀ q ∈ news, B.get? q.1 = some q.2 ∧ base.get? q.1 = none) ∧ FlyD B l e C dx .none h ∧ B.get? dx = some (dictOf [⟨hw, .str "why" k, v⟩] 1) ∧ base.get? dx = none
theorem raisedX_sub {base : Heap} {l : List Env} {e C : Addr} {v : Value} {hw : Int} {news big : List (Addr × Obj)} {h : Heap} (R : RaisedX base l e C v hw big h) (hs : ∀ p ∈ news, p ∈ big) : RaisedX base l e C v hw news h :=
  let ⟨B, dx, k, a, b, c⟩ := R; ⟨B, dx, k, a, fun q hq => b q (hs q hq), c⟩
section
variable {M : Model} {A : Around} {E : Value → Shared → Prop} {s' : Shared} {base g : Heap} {outer : List Env} {L a e C : Addr} {m : Str → Option Value} {name : Str} {scope : Scope} {cd v : Value} {hw : Int} {Q : Unit → Shared → Prop} {news news' : List (Addr × Obj)}
theorem leave_made (hQ : ∀ h', RaisedX base outer e C v hw news h' → g.UpToSlots h' → Q () { s' with heap := h' }) (hx : MadeX C v hw news (.ref e) news' := by assumption) (K : Below A base outer g := by k_asm) (F : Fr g L s'.heap m := by k_asm) (N : News g L s'.heap news' := by k_asm)
    (hk : scope.kind = .function := by rfl) :
    wpAny M (A.deeper (envOf name scope L a cd)) (leaving (envOf name scope L a cd) (.ref e)) Q E s' := by
  obtain ⟨e', dx, t2, k, rest, er, rfl, hin, hlt, hltr, hne, hlo⟩ := hx
  obtain rfl : e = e' := by cases er; rfl
  have K' := K.push (name := name) (a := a) (cd := cd) F hk
  have Ne := N (e, excObj C t2 (some dx)) (.head _)
  have Nd := N (dx, dictOf [⟨hw, .str "why" k, v⟩] 1) (.tail _ (.head _))
  have hen : base.get? e = none := fresh_of_stays K.stays Ne.2.2
  have notFr : ∀ b, g.get? b = none → b ≠ L → b ∉ (envOf name scope L a cd :: outer).filterMap (·.frame) := fun b hb hbL hm => by
    obtain ⟨env, he, hf⟩ := List.mem_filterMap.mp hm
    rcases List.mem_cons.mp he with rfl | he
    · exact hbL (Option.some.inj hf).symm
    · obtain ⟨o, ho, _⟩ := (K.frames.mem (List.mem_filterMap.mpr ⟨env, he, hf⟩)).2
      rw [hb] at ho; cases ho
  have hin' : ∀ env ∈ (envOf name scope L a cd :: outer), ∀ b, env.frame = some b → b ∈ e :: (envOf name scope L a cd :: outer).filterMap (·.frame) := fun env he b hb => .tail _ (List.mem_filterMap.mpr ⟨env, he, hb⟩)
  have stays : ∀ b o, s'.heap.get? b = some o → b ≠ e → b ∉ (envOf name scope L a cd :: outer).filterMap (·.frame) → (hideAll s'.heap (e :: (envOf name scope L a cd :: outer).filterMap (·.frame))).get? b = some o := fun b o q n1 n2 =>
    hideAll_get _ q fun hm => by
      rcases List.mem_cons.mp hm with z | z
      · exact n1 z
      · exact n2 z
  have stb : base.StaysIn (hideAll s'.heap (e :: (envOf name scope L a cd :: outer).filterMap (·.frame))) := fun b o q => stays b o (K'.stays b o q) (fun z => by rw [z, hen] at q; cases q) fun hm => by
    rw [(K'.frames.mem hm).1] at q; cases q
  refine leaveD_first K'.stack (funFrames_hide K'.frames hin') rfl Ne.1 (fun b o q => of_hideAll _ q) (hideAll_none _ (.head _)) rfl fun h' x u => hQ h' ⟨_, dx, k, stb, fun q hq => ?_, x, ?_, fresh_of_stays K.stays Nd.2.2⟩ ((Heap.UpToSlots.of_keeps F.keep).trans u)
  · have z := N q (.tail _ (.tail _ (hin q hq)))
    exact ⟨stays _ _ z.1 (hne q (hin q hq)) (notFr _ z.2.2 z.2.1), fresh_of_stays K.stays z.2.2⟩
  · exact stays _ _ Nd.1 (Nat.ne_of_gt hlt) (notFr _ Nd.2.2 Nd.2.1)
theorem leave_onX {g₂ : Heap} (hQ : ∀ h', RaisedX base outer e C v hw news h' → g.UpToSlots h' → Q () { s' with heap := h' })
    (hsm : g₂.UpToSlots s'.heap := by assumption) (K : Below A base outer g := by k_asm) (F : Fr g L g₂ m := by k_asm) (R : RaisedX base (envOf name scope L a cd :: outer) e C v hw news s'.heap := by k_asm) :
    wpAny M (A.deeper (envOf name scope L a cd)) (leaving (envOf name scope L a cd) (.ref e)) Q E s' := by
  obtain ⟨B, dx, k, hB, hl, hfl, hd, hd0⟩ := R
  exact leaveD_next (Around.frames_deeper K.stack) rfl hfl fun h' x u => hQ h' ⟨B, dx, k, hB, hl, x, hd, hd0⟩ (((Heap.UpToSlots.of_keeps F.keep).trans hsm).trans u)
end
end
section
section
variable {M : Model} {A : Around} {E : Value → Shared → Prop} {env : Env}
variable {nm q : Str} {C N : Addr} {bs bm : List Value} {hdct : Bool} {sn : List Str} {sub : List Value} {ab : Bool} {col : Option Bool} {dd : Option Addr} {k0 k1 k2 k3 k5 : Option Value} {newId : String}
theorem raiseStmt_own {s : Shared} {x : Sem Value} {Q : Flow → Shared → Prop} (hbase : bm.contains (.type "BaseException") = true) (hh : A.handled = none)
    (h : wpAny M A x (fun v s₁ => ∃ e t dx, v = .ref e ∧ s₁.heap.get? C = some (excClassObj nm q C N bs bm hdct sn sub ab col dd k0 k1 k2 k3 k5 newId) ∧
      s₁.heap.get? e = some (excObj C t dx) ∧ E (.ref e) s₁) E s) :
    wpAny M A (raiseStmt env (some x) none) Q E s := by
  have hcB : (Value.ref C :: bm).contains (.type "BaseException") = true := by rw [List.contains_cons, hbase, Bool.or_true]
  unfold raiseStmt
  refine wpAny_bind (wpAny_mono h (fun v s₁ h₁ => ?_) fun _ _ x => x)
  obtain ⟨e, t, dx, rfl, hC, he, hE⟩ := h₁
  obtain ⟨hp, g, d, tk, os⟩ := s₁
  repeat (first | with_reducible refine wpAny_loadPart_at he ?_ | with_reducible refine wpAny_loadPart_at hC ?_ | (with_reducible refine wpAny_isSubtype_exc hC ?_; rw [hcB]) | wp_step)
  exact wpAny_raiseNew_none hh hE
theorem raise_own {s : Shared} {x : Expr} {pos : Pos} {Q : Flow → Shared → Prop} (hbase : bm.contains (.type "BaseException") = true) (hh : A.handled = none)
    (h : wpAny M A (eval x env) (fun v s₁ => ∃ e t dx, v = .ref e ∧ s₁.heap.get? C = some (excClassObj nm q C N bs bm hdct sn sub ab col dd k0 k1 k2 k3 k5 newId) ∧
      s₁.heap.get? e = some (excObj C t dx) ∧ E (.ref e) s₁) E s) :
    wpAny M A (exec (.Raise (some x) none pos) env) Q E s := by
  rw [arm_exec_Raise]
  refine wpAny_bind (wpAny_standAt (raiseStmt_own (C := C) (nm := nm) (q := q) (N := N) (bs := bs) (bm := bm) (hdct := hdct) (sn := sn) (sub := sub) (ab := ab) (col := col) (dd := dd) (k0 := k0) (k1 := k1) (k2 := k2) (k3 := k3) (k5 := k5) (newId := newId) hbase hh ?_))
  exact wpAny_bind (wpAny_mono h (fun v s₃ h₃ => wpAny_bind (wpAny_standAt (wpAny_pure h₃))) fun _ _ x => x)
end
end
section
theorem tel_use {w : World} {f : Addr} {dd uu : Nat} {args : List Value} {news : List (Addr × Obj)} {Out : Value → List (Addr × Obj) → Prop}
    {mean : ExcName → Option Value} {mg mb : Str → Option Value} {dp un : Nat} {gd : Option (List Code)} {cn : Str} {cs : Scope} {a : Addr} {ccd : Value} {cl : List (Str × Addr)} {outer : List Env} {A₀ : Around} {base h₀ : Heap} {L : Addr} {m : Str → Option Value} {s : Shared} {Q E : Value → Shared → Prop}
    (B : Below A₀ base outer h₀ := by k_asm) (F : Fr h₀ L s.heap m := by k_asm) (X : (Mine.hd.heap_39 w.params).In h₀ := by k_asm) (N : News h₀ L s.heap news := by k_asm) (T : Top Mine.hd.view_39 (looseW Mine.hd.view_39 []) mean mg mb h₀ := by k_asm) (hk : cs.kind = .function := by first | exact rfl | assumption) (hd : dp + dd < recursionLimit := by ktr_room) (hu : un + uu < cLine := by ktr_units)
    (C : Tel w f dd uu args news Out) (ret : ∀ r news' h' tk', Fr h₀ L h' m → News h₀ L h' news' → Out r news' → Q r { s with heap := h', toks := tk' }) :
    wpAny (model PySem.Challenge.rw_nm0113_01.row.prog w) (ktrTop dp un gd cn cs L a ccd cl outer) (call (.ref f) args) Q E s :=
  C mean mg mb dp un gd cn cs a ccd cl outer A₀ base h₀ L m s Q E B F X N T hk hd hu ret
def TelR (w : World) (f : Addr) (dd uu : Nat) (args : List Value) (news : List (Addr × Obj)) (C : Addr) (v : Value) : Prop :=
  ∀ (mean : ExcName → Option Value) (mg mb : Str → Option Value) (dp un : Nat) (gd : Option (List Code)) (cn : Str) (cs : Scope) (a : Addr) (ccd : Value) (cl : List (Str × Addr)) (outer : List Env) (A₀ : Around) (base h₀ : Heap) (L : Addr) (m : Str → Option Value) (s : Shared) (Q E : Value → Shared → Prop),
    Below A₀ base outer h₀ → Fr h₀ L s.heap m → (Mine.hd.heap_39 w.params).In h₀ → News h₀ L s.heap news → Top Mine.hd.view_39 (looseW Mine.hd.view_39 []) mean mg mb h₀ → cs.kind = .function → dp + dd < recursionLimit → un + uu < cLine →
    (∀ e h' tk' g₂, Fr h₀ L g₂ m → g₂.UpToSlots h' → RaisedX base (envX cn cs L a ccd cl :: outer) e C v (PyData.keyHash w.params "why") news h' → E (.ref e) { s with heap := h', toks := tk' }) →
    wpAny (model PySem.Challenge.rw_nm0113_01.row.prog w) (ktrTop dp un gd cn cs L a ccd cl outer) (call (.ref f) args) Q E s
theorem telR_use {w : World} {f : Addr} {dd uu : Nat} {args : List Value} {news : List (Addr × Obj)} {Cx : Addr} {v : Value}
    {mean : ExcName → Option Value} {mg mb : Str → Option Value} {dp un : Nat} {gd : Option (List Code)} {cn : Str} {cs : Scope} {a : Addr} {ccd : Value} {cl : List (Str × Addr)} {outer : List Env} {A₀ : Around} {base h₀ : Heap} {L : Addr} {m : Str → Option Value} {s : Shared} {Q E : Value → Shared → Prop}
    (B : Below A₀ base outer h₀ := by k_asm) (F : Fr h₀ L s.heap m := by k_asm) (X : (Mine.hd.heap_39 w.params).In h₀ := by k_asm) (N : News h₀ L s.heap news := by k_asm) (T : Top Mine.hd.view_39 (looseW Mine.hd.view_39 []) mean mg mb h₀ := by k_asm) (hk : cs.kind = .function := by first | exact rfl | assumption) (hd : dp + dd < recursionLimit := by ktr_room) (hu : un + uu < cLine := by ktr_units)
    (C : TelR w f dd uu args news Cx v) (ret : ∀ e h' tk' g₂, Fr h₀ L g₂ m → g₂.UpToSlots h' → RaisedX base (envX cn cs L a ccd cl :: outer) e Cx v (PyData.keyHash w.params "why") news h' → E (.ref e) { s with heap := h', toks := tk' }) :
    wpAny (model PySem.Challenge.rw_nm0113_01.row.prog w) (ktrTop dp un gd cn cs L a ccd cl outer) (call (.ref f) args) Q E s :=
  C mean mg mb dp un gd cn cs a ccd cl outer A₀ base h₀ L m s Q E B F X N T hk hd hu ret
section
variable {w : World} {A : Around} {E : Value → Shared → Prop} {env : Env} {s : Shared} {x : Expr} {pos : Pos} {Q : Flow → Shared → Prop}
theorem raise_K {K : Frag} {M : Model} {nm q : Str} {C N : Addr} {bs bm : List Value} {hdct : Bool} {sn : List Str} {sub : List Value} {ab : Bool} {col : Option Bool} {dd : Option Addr} {k0 k1 k2 k3 k5 : Option Value} {newId : String}
    (hK : K.lookup C = some (excClassObj nm q C N bs bm hdct sn sub ab col dd k0 k1 k2 k3 k5 newId)) (hbase : bm.contains (.type "BaseException") = true) (hh : A.handled = none)
    (h : wpAny M A (eval x env) (fun v s₁ => ∃ e t dx, v = .ref e ∧ K.In s₁.heap ∧ s₁.heap.get? e = some (excObj C t dx) ∧ E (.ref e) s₁) E s) :
    wpAny M A (exec (.Raise (some x) none pos) env) Q E s :=
  raise_own (C := C) (nm := nm) (q := q) (N := N) (bs := bs) (bm := bm) (hdct := hdct) (sn := sn) (sub := sub) (ab := ab) (col := col) (dd := dd) (k0 := k0) (k1 := k1) (k2 := k2) (k3 := k3) (k5 := k5) (newId := newId) hbase hh
    (wpAny_mono h (fun v s₁ h₁ => by
      obtain ⟨e, t, dx, rfl, hX, he, hE⟩ := h₁
      exact ⟨e, t, dx, rfl, hX _ _ hK, he, hE⟩) fun _ _ z => z)
theorem raise_trap (hh : A.handled = none)
    (h : wpAny (model PySem.Challenge.rw_nm0113_01.row.prog w) A (eval x env) (fun v s₁ => ∃ e t dx, v = .ref e ∧ (Mine.hd.heap_39 w.params).In s₁.heap ∧ s₁.heap.get? e = some (excObj 44 t dx) ∧ E (.ref e) s₁) E s) :
    wpAny (model PySem.Challenge.rw_nm0113_01.row.prog w) A (exec (.Raise (some x) none pos) env) Q E s := by
  revert h
  k_fill
  intro h
  refine' raise_K (K := Mine.hd.heap_39 w.params) (C := 44) ?hK ?hb hh h
  case hK => k_is
  case hb => decide
theorem raise_misused (hh : A.handled = none)
    (h : wpAny (model PySem.Challenge.rw_nm0113_01.row.prog w) A (eval x env) (fun v s₁ => ∃ e t dx, v = .ref e ∧ (Mine.hd.heap_39 w.params).In s₁.heap ∧ s₁.heap.get? e = some (excObj 56 t dx) ∧ E (.ref e) s₁) E s) :
    wpAny (model PySem.Challenge.rw_nm0113_01.row.prog w) A (exec (.Raise (some x) none pos) env) Q E s := by
  revert h
  k_fill
  intro h
  refine' raise_K (K := Mine.hd.heap_39 w.params) (C := 56) ?hK ?hb hh h
  case hK => k_is
  case hb => decide
end
end
section
def LeaveO (h₀ : Heap) (L : Addr) (m : Str → Option Value) (g : Heap) (R : Result → Shared → Prop) (v : Value) (s' : Shared) : Prop := LeaveK h₀ L m g R v s' ∨ R (.ok (.ret v)) s'
section
variable {prog : Program} {w : World} {A₀ A : Around} {s : Shared} {K : Frag} {L : Addr} {h₀ base : Heap} {m mg mb : Str → Option Value} {news : List (Addr × Obj)} {p : Program} {loose : List Str} {mean : ExcName → Option Value}
theorem code_defO {env : Env} {outer : List Env} {R : Result → Shared → Prop} {name qual : Str} {params : Arguments} {body : List Stmt} {scope : Scope} {dV kV doc pm cdv ct oc : Value} {an od : Option Addr} {osl : Array (Option Value)} {f : Addr} {args : Args} {binds : List (Str × Value)}
    (B : Below A₀ base outer h₀) (F : Fr h₀ L s.heap m) (X₀ : K.In h₀) (N : News h₀ L s.heap news) (T : Top p loose mean mg mb h₀) (hA : A.frames = some (env :: outer)) (hf : env.frame = some L) (hke : env.scope.kind = .function)
    (ho : K.lookup f = some ⟨oc, od, .func (fnOf name qual params body scope dV kV doc pm an cdv ct), osl⟩) (hcd : codeIn K cdv qual = true) (hroom : A.depth < recursionLimit)
    (hbind : BindsTo s (fnOf name qual params body scope dV kV doc pm an cdv ct) args binds) (hloc : ∀ y ∈ binds, scope.names.lookup y.1 = some .local)
    (h : ∀ g L' h₁, Fr h₀ L g m → Fr g L' h₁ (fun y => binds.reverse.lookup y) → News g L' h₁ news → Below A base (env :: outer) g → K.In g → Top p loose mean mg mb g →
      wpAny (model prog w) (A.deeper (envOf qual scope L' f cdv)) (execs body (envOf qual scope L' f cdv))
        (fun fl s' => LeaveO h₀ L m g R (match fl with | .ret v => v | _ => .none) s')
        (fun e s' => wpAny (model prog w) (A.deeper (envOf qual scope L' f cdv)) (leaving (envOf qual scope L' f cdv) e) (fun _ s'' => R (.error e) s'') (fun e' s'' => R (.error e') s'') s')
        { s with heap := h₁, toks := s.toks + binds.length })
    (hco : scope.isCoroutine = false) (hgen : scope.isGenerator = false) (hk : scope.kind = .function)
    (hcell : ∀ x ∈ scope.names, x.2 ≠ .cell) : codeAny (model prog w) A (.call (.ref f) args) R s := by
  obtain ⟨FG, BG, st, lv⟩ := groundX (R := R) B F N hA hf hke
  refine codeAny_call_def (fd := fnX name qual params body scope [] dV kV doc pm an cdv ct) (body := body) (binds := binds) hroom ((X₀.keeps F.keep) _ _ ho) rfl (T.nolimit.keeps F.keep) (codeRec_of (X₀.keeps F.keep) hcd) rfl hbind hcell hloc (fun h₁ hns hk₁ => ?_) hco hgen hk
  exact wpAny_mono (h _ s.heap.objs.size h₁ FG ⟨hns, fun b o e => hk₁ b o (of_hideAll _ e), Nat.le_of_eq (hideAll_size _ _)⟩
    (fun p hp => ⟨hk₁ _ _ (N p hp).1, Nat.ne_of_lt (Heap.lt_size (N p hp).1), hideAll_none _ (List.mem_map_of_mem hp)⟩) BG (X₀.keeps st) (T.keeps st)) (fun fl s' hl => hl.elim (lv _ _) id) fun _ _ y => y
theorem leaveO_ {g : Heap} {L' : Addr} {m' : Str → Option Value} {news' : List (Addr × Obj)} {R : Result → Shared → Prop} {v : Value} {s' : Shared}
    (k : Fr h₀ L s'.heap m → News h₀ L s'.heap news' → R (.ok (.ret v)) s') (F' : Fr g L' s'.heap m' := by k_asm) (N' : News g L' s'.heap news' := by k_asm) : LeaveO h₀ L m g R v s' := .inl (leaveK_ F' N' k)
end
section
variable {prog : Program} {w : World} {A : Around} {E : Value → Shared → Prop} {s : Shared} {env : Env}
variable {nm q : Str} {C N : Addr} {bs bm : List Value} {hdct : Bool} {sn : List Str} {sub : List Value} {ab : Bool} {col : Option Bool} {dd : Option Addr} {k0 k1 k2 k3 k5 : Option Value} {newId : String}
theorem handleBy_own_as {e : Addr} {t : Expr} {n : Str} {b₀ : Stmt} {suite : List Stmt} {pos : Pos} {rest : List ExceptHandler} {Q : Flow → Shared → Prop} (hbase : bm.contains (.type "BaseException") = true)
    (h : ∀ E', wpAny (model prog w) (A.mark (some (.ref e))) (eval t env) (fun c s₁ => c = .ref C ∧ s₁.heap.get? C = some (excClassObj nm q C N bs bm hdct sn sub ab col dd k0 k1 k2 k3 k5 newId) ∧ (∃ oe, s₁.heap.get? e = some oe ∧ oe.cls = .ref C) ∧
      ∀ E', wpAny (model prog w) (A.mark (some (.ref e))) (setFlight (.ref e) none) (fun _ s₂ => wpAny (model prog w) (A.mark (some (.ref e))) (storeName env n (.ref e)) (fun _ s₃ =>
            ∀ E', wpAny (model prog w) (A.mark (some (.ref e))) (execs (b₀ :: suite) env)
              (fun f s₄ => wpAny (model prog w) A (do bindName env n .none; unbindBehindTheSuite env n pos) (fun _ s₅ => Q f s₅) E s₄) E' s₃) E' s₂) E' s₁) E' s) :
    wpAny (model prog w) A (handleBy (.ref e) env (.ExceptHandler (some t) (some n) (b₀ :: suite) pos :: rest)) Q E s := by
  refine wpAny_handleBy_cons (codeAny_handlers_test (wpAny_mono (h _) (fun c s₁ h₁ => ?_) fun _ _ x => x)) (by intro q; cases q)
  obtain ⟨rfl, hC, ⟨oe, he, hcls⟩, hk⟩ := h₁
  obtain ⟨hp, g, d, tk, os⟩ := s₁
  refine wpAny_excMatches_sub_self hC he hcls hbase ?_
  exact codeAny_handlers_suite_as (wpAny_mono (hk _) (fun _ s₂ h₂ => wpAny_mono h₂ (fun _ s₃ h₃ => h₃ _) fun _ _ x => x) fun _ _ x => x)
theorem caught_X {outer : List Env} {base g g₂ : Heap} {L a e : Addr} {m mg mb : Str → Option Value} {name x n : Str} {scope : Scope} {cd v : Value} {hw : Int} {news : List (Addr × Obj)} {K : Frag} {p : Program} {loose : List Str} {np pos : Pos} {b₀ : Stmt} {suite : List Stmt} {rest : List ExceptHandler} {Q : Flow → Shared → Prop}
    {L₀ : Addr} {m₀ : Str → Option Value}
    (k : ∀ h' tk dx kk vs sl o₀ E', LCg.NsObj o₀ m₀ → Fr base L h' (fun y => if y = n then some (.ref e) else m y) → News base L h' ((L₀, o₀) :: (e, ({ cls := .ref C, dict := some dx, data := .fields vs, slots := sl } : Obj)) :: (dx, dictOf [⟨hw, .str "why" kk, v⟩] 1) :: news) →
      wpAny (model prog w) ((A.deeper (envOf name scope L a cd)).mark (some (.ref e))) (execs (b₀ :: suite) (envOf name scope L a cd))
        (fun f s₄ => wpAny (model prog w) (A.deeper (envOf name scope L a cd)) (do bindName (envOf name scope L a cd) n .none; unbindBehindTheSuite (envOf name scope L a cd) n pos) (fun _ s₅ => Q f s₅) E s₄) E' { s with heap := h', toks := tk })
    (K0 : Below A base outer g := by k_asm) (FG : Fr base L₀ g m₀ := by k_asm) (hsm : g₂.UpToSlots s.heap := by assumption) (F : Fr g L g₂ m := by k_asm) (R : RaisedX base (envOf name scope L a cd :: outer) e C v hw news s.heap := by k_asm)
    (hab : base.objs.size ≤ L := by assumption) (X : K.In base := by k_asm) (T : TopRead p loose mg mb base := by k_asm) (hx : nsIn K mainGlobals x = some (some (.ref C)) := by k_is) (hK : K.lookup C = some (excClassObj nm q C N bs bm hdct sn sub ab col dd k0 k1 k2 k3 k5 newId) := by k_is) (hbase : bm.contains (.type "BaseException") = true := by decide)
    (hk : scope.kind = .function := by rfl) (hlo : (envOf name scope L a cd).kindOf n = some .local := by rfl) (hxk : (envOf name scope L a cd).kindOf x = some .globalImplicit := by rfl) (hdb : (x == ("__debug__" : Str)) = false := by decide) :
    wpAny (model prog w) (A.deeper (envOf name scope L a cd)) (noteFrame (.ref e) (envOf name scope L a cd))
      (fun _ s₂ => wpAny (model prog w) (A.deeper (envOf name scope L a cd)) (setFlight (.ref e) none) (fun _ s₃ =>
        wpAny (model prog w) (A.deeper (envOf name scope L a cd)) (handleBy (.ref e) (envOf name scope L a cd) (.ExceptHandler (some (.Name x np)) (some n) (b₀ :: suite) pos :: rest)) Q E s₃) E s₂) E s := by
  obtain ⟨B, dx, kk, hB, hl, hfl, hd, hd0⟩ := R
  have hL : B.get? L = none := by
    obtain ⟨_, ⟨L', _, hf, hn', _⟩, _⟩ := hfl.2.2.1
    obtain rfl : L = L' := Option.some.inj hf
    exact hn'
  have nL : ∀ b o, B.get? b = some o → b ≠ L := fun b o q z => by rw [z, hL] at q; cases q
  refine noteD_next (Around.frames_deeper K0.stack) rfl hfl fun h₁ x1 u1 => landD x1 fun h₂ x2 u2 => ?_
  have F2 : Fr base L h₂ m := ⟨((hsm.trans u1).trans u2).ns F.ns, fun b o z => x2.1 b o (hB b o z), hab⟩
  obtain ⟨vs₂, T₂, oT₂, ts₂, sl₂, he₂, r₂⟩ := id x2.2.2.2
  refine handleBy_own_as (C := C) (nm := nm) (q := q) (N := N) (bs := bs) (bm := bm) (hdct := hdct) (sn := sn) (sub := sub) (ab := ab) (col := col) (dd := dd) (k0 := k0) (k1 := k1) (k2 := k2) (k3 := k3) (k5 := k5) (newId := newId) hbase fun E₁ => ?_
  refine name_K F2 X T hx ⟨rfl, x2.1 _ _ (hB _ _ (X _ _ hK)), ⟨_, he₂, rfl⟩, fun E₂ => landD x2 fun h₃ x3 u3 => ?_⟩ hk hxk hdb
  obtain ⟨vs₃, T₃, oT₃, ts₃, sl₃, he₃, r₃⟩ := id x3.2.2.2
  have F3 : Fr base L h₃ m := ⟨(((hsm.trans u1).trans u2).trans u3).ns F.ns, fun b o z => x3.1 b o (hB b o z), hab⟩
  have hen : base.get? e = none := fresh_of_stays hB x3.2.1
  obtain ⟨o₀, ho₀, hn₀⟩ := LCg.ns_obj ((((hsm.trans u1).trans u2).trans u3).ns (FG.ns.keeps F.keep))
  have hL0 : L₀ < L := Nat.lt_of_lt_of_le FG.ns.lt F.above
  have N3 : News base L h₃ ((L₀, o₀) :: (e, ({ cls := .ref C, dict := some dx, data := .fields vs₃, slots := sl₃ } : Obj)) :: (dx, dictOf [⟨hw, .str "why" kk, v⟩] 1) :: news) := fun z hz => by
    rcases List.mem_cons.mp hz with rfl | hz
    · exact ⟨ho₀, Nat.ne_of_lt hL0, Heap.get?_none_of_le FG.above⟩
    rcases List.mem_cons.mp hz with rfl | hz
    · refine ⟨he₃, fun w => ?_, hen⟩
      obtain ⟨oL, es, ep, hLo, hLd, _⟩ := F3.ns
      have w' : e = L := w
      rw [w', hLo] at he₃
      cases he₃
      cases hLd
    · rcases List.mem_cons.mp hz with rfl | hz
      · exact ⟨x3.1 _ _ hd, nL _ _ hd, hd0⟩
      · exact ⟨x3.1 _ _ (hl z hz).1, nL _ _ (hl z hz).1, (hl z hz).2⟩
  exact stN F3 N3 (fun h₄ F4 N4 E₃ => k h₄ _ dx kk vs₃ sl₃ o₀ E₃ hn₀ F4 N4) hk hlo
theorem leaveO_caught {h₀ : Heap} {L L' : Addr} {m m' : Str → Option Value} {g : Heap} {R : Result → Shared → Prop} {v : Value} {o₀ : Obj} {big news' : List (Addr × Obj)}
    (hn : LCg.NsObj o₀ m) (N : News h₀ L' s.heap big) (F : Fr h₀ L' s.heap m') (hm : (L, o₀) ∈ big) (hab : h₀.objs.size ≤ L) (hsub : ∀ p ∈ news', p ∈ big ∧ p.1 ≠ L)
    (k : Fr h₀ L s.heap m → News h₀ L s.heap news' → R (.ok (.ret v)) s) : LeaveO h₀ L m g R v s :=
  .inr (k ⟨hn.ns (N _ hm).1, F.keep, hab⟩ fun p hp => ⟨(N p (hsub p hp).1).1, (hsub p hp).2, (N p (hsub p hp).1).2.2⟩)
end
theorem inst_exc {h₀ h : Heap} {L x C dx : Addr} {news : List (Addr × Obj)} {od : Obj} {vs : Array Value} {sl : Array (Option Value)} (N : News h₀ L h news) (h1 : (x, (⟨.ref C, some dx, .fields vs, sl⟩ : Obj)) ∈ news) (h2 : (dx, od) ∈ news) :
    InstAt h x ⟨.ref C, some dx, .fields vs, sl⟩ C (some od) := ⟨(N _ h1).1, rfl, rfl, (N _ h2).1⟩
def TelX (w : World) (f : Addr) (dd uu : Nat) (args : List Value) (news : List (Addr × Obj)) (Out : Value → List (Addr × Obj) → Prop) (bad : Prop) (C : Addr) (v : Value) : Prop :=
  ∀ (mean : ExcName → Option Value) (mg mb : Str → Option Value) (dp un : Nat) (gd : Option (List Code)) (cn : Str) (cs : Scope) (a : Addr) (ccd : Value) (cl : List (Str × Addr)) (outer : List Env) (A₀ : Around) (base h₀ : Heap) (L : Addr) (m : Str → Option Value) (s : Shared) (Q E : Value → Shared → Prop),
    Below A₀ base outer h₀ → Fr h₀ L s.heap m → (Mine.hd.heap_39 w.params).In h₀ → News h₀ L s.heap news → Top Mine.hd.view_39 (looseW Mine.hd.view_39 []) mean mg mb h₀ → cs.kind = .function → dp + dd < recursionLimit → un + uu < cLine →
    (∀ r news' h' tk', Fr h₀ L h' m → News h₀ L h' news' → Out r news' → Q r { s with heap := h', toks := tk' }) →
    (bad → ∀ e h' tk' g₂, Fr h₀ L g₂ m → g₂.UpToSlots h' → RaisedX base (envX cn cs L a ccd cl :: outer) e C v (PyData.keyHash w.params "why") news h' → E (.ref e) { s with heap := h', toks := tk' }) →
    wpAny (model PySem.Challenge.rw_nm0113_01.row.prog w) (ktrTop dp un gd cn cs L a ccd cl outer) (call (.ref f) args) Q E s
theorem telX_ok {w : World} {f : Addr} {dd uu : Nat} {args : List Value} {news : List (Addr × Obj)} {Out Out' : Value → List (Addr × Obj) → Prop} {bad : Prop} {Cx : Addr} {v : Value} (C : Tel w f dd uu args news Out) (h : ∀ r n, Out r n → Out' r n) : TelX w f dd uu args news Out' bad Cx v :=
  fun mean mg mb dp un gd cn cs a ccd cl outer A₀ base h₀ L m s Q E B F X N T hk hd hu ret _ => C mean mg mb dp un gd cn cs a ccd cl outer A₀ base h₀ L m s Q E B F X N T hk hd hu fun r n h' tk' F' N' o => ret r n h' tk' F' N' (h r n o)
theorem telX_bad {w : World} {f : Addr} {dd uu : Nat} {args : List Value} {news : List (Addr × Obj)} {Out' : Value → List (Addr × Obj) → Prop} {bad : Prop} {Cx : Addr} {v : Value} (C : TelR w f dd uu args news Cx v) (hb : bad) : TelX w f dd uu args news Out' bad Cx v :=
  fun mean mg mb dp un gd cn cs a ccd cl outer A₀ base h₀ L m s Q E B F X N T hk hd hu _ rse => C mean mg mb dp un gd cn cs a ccd cl outer A₀ base h₀ L m s Q E B F X N T hk hd hu (rse hb)
theorem telX_use {w : World} {f : Addr} {dd uu : Nat} {args : List Value} {news : List (Addr × Obj)} {Out : Value → List (Addr × Obj) → Prop} {bad : Prop} {Cx : Addr} {v : Value}
    {mean : ExcName → Option Value} {mg mb : Str → Option Value} {dp un : Nat} {gd : Option (List Code)} {cn : Str} {cs : Scope} {a : Addr} {ccd : Value} {cl : List (Str × Addr)} {outer : List Env} {A₀ : Around} {base h₀ : Heap} {L : Addr} {m : Str → Option Value} {s : Shared} {Q E : Value → Shared → Prop}
    (ret : ∀ r news' h' tk', Fr h₀ L h' m → News h₀ L h' news' → Out r news' → Q r { s with heap := h', toks := tk' })
    (rse : bad → ∀ e h' tk' g₂, Fr h₀ L g₂ m → g₂.UpToSlots h' → RaisedX base (envX cn cs L a ccd cl :: outer) e Cx v (PyData.keyHash w.params "why") news h' → E (.ref e) { s with heap := h', toks := tk' })
    (C : TelX w f dd uu args news Out bad Cx v := by assumption)
    (B : Below A₀ base outer h₀ := by k_asm) (F : Fr h₀ L s.heap m := by k_asm) (X : (Mine.hd.heap_39 w.params).In h₀ := by k_asm) (N : News h₀ L s.heap news := by k_asm) (T : Top Mine.hd.view_39 (looseW Mine.hd.view_39 []) mean mg mb h₀ := by k_asm) (hk : cs.kind = .function := by first | exact rfl | assumption) (hd : dp + dd < recursionLimit := by ktr_room) (hu : un + uu < cLine := by ktr_units) :
    wpAny (model PySem.Challenge.rw_nm0113_01.row.prog w) (ktrTop dp un gd cn cs L a ccd cl outer) (call (.ref f) args) Q E s :=
  C mean mg mb dp un gd cn cs a ccd cl outer A₀ base h₀ L m s Q E B F X N T hk hd hu ret rse
/-- a call out of the law's own frame -/
def TelT (w : World) (f : Addr) (dd uu : Nat) (args : List Value) (news : List (Addr × Obj)) (Out : Value → List (Addr × Obj) → Prop) : Prop :=
  ∀ (mean : ExcName → Option Value) (mg mb : Str → Option Value) (dp un : Nat) (gd : Option (List Code)) (cn : Str) (cs : Scope) (a : Addr) (ccd : Value) (cl : List (Str × Addr)) (outer : List Env) (A₀ : Around) (h₀ : Heap) (L : Addr) (m : Str → Option Value) (s : Shared) (Q E : Value → Shared → Prop),
    Below A₀ h₀ outer h₀ → Fr h₀ L s.heap m → (Mine.hd.heap_39 w.params).In h₀ → News h₀ L s.heap news → Top Mine.hd.view_39 (looseW Mine.hd.view_39 []) mean mg mb h₀ → cs.kind = .function → dp + dd < recursionLimit → un + uu < cLine →
    (∀ r news' h' tk', Fr h₀ L h' m → News h₀ L h' news' → Out r news' → Q r { s with heap := h', toks := tk' }) →
    wpAny (model PySem.Challenge.rw_nm0113_01.row.prog w) (ktrTop dp un gd cn cs L a ccd cl outer) (call (.ref f) args) Q E s
end
section
section
variable {prog : Program} {w : World} {A : Around} {E : Value → Shared → Prop} {s : Shared} {K : Frag} {x C : Addr} {ox : Obj} {od : Option Obj} {name : Str} {expr : Bool} {Q : Value → Shared → Prop}
theorem get_exc {v : Value} (X : K.In s.heap) (I : InstAt s.heap x ox C od) (hga : findIn K (.ref C) "__getattribute__" = some (some (.builtin "BaseException.__getattribute__"))) (hgt : findIn K (.ref C) "__getattr__" = some none)
    (hb : mroIn K C (.type "BaseException") = some true) (hf : findObj K C od name = some (.value v)) (hh : handedIn v = true) (h : Q v { s with toks := s.toks + 1 }) : wpAny (model prog w) A (getAttr (.ref x) name expr) Q E s := by
  obtain ⟨hp, g, d, t, os⟩ := s
  dsimp only at X I h
  have L0 := I.type (M := model prog w)
  have L1 := looks_findIn (M := model prog w) X hga
  have L2 := looks_findIn (M := model prog w) X hgt
  have L3 := looks_find (M := model prog w) X I hf
  have L4 : Looks (model prog w) hp (isInstance (.ref x) (.type "BaseException")) true := L0.andThen (looks_mroIn X hb)
  have hk : builtinKind "BaseException.__getattribute__" = some .slot := by decide +kernel
  have hsplit : splitId "BaseException.__getattribute__" = some ("BaseException", "__getattribute__") := by decide +kernel
  have hplain : plainId "BaseException.__getattribute__" = true := by decide +kernel
  unfold getAttr getAttrBy
  refine wpAny_bind (wpAny_mkText (wpAny_holding (wpAny_bind (L0.at (wpAny_bind (L1.at ?_))))))
  dsimp only
  rw [if_neg (show ¬ ((onTheHeap (Value.ref C) && Value.builtin "BaseException.__getattribute__" == Value.builtin "object.__getattribute__") = true) from by
    rw [show (Value.builtin "BaseException.__getattribute__" == Value.builtin "object.__getattribute__") = false from by decide +kernel, Bool.and_false]; exact Bool.false_ne_true)]
  unfold getAttrByItsOwn hookBefore
  rw [if_pos (show onTheHeap (Value.ref C) = true from rfl)]
  refine wpAny_bind (L2.at (wpAny_bind (wpAny_attempt (wpAny_holding ?_))))
  unfold callGetattribute
  rw [if_neg (show ¬ ((expr && onTheHeap (Value.builtin "BaseException.__getattribute__")) = true) from by cases expr <;> exact Bool.false_ne_true)]
  unfold boundAndCalled
  rw [show bindSpecial (Value.builtin "BaseException.__getattribute__") (Value.ref x) = pure (Value.builtin "BaseException.__getattribute__", [Value.ref x]) from (F.excAttr_ValueError).ga.bind (.ref x)]
  refine wpAny_bind (wpAny_pure ?_)
  show wpAny _ _ (call (.builtin "BaseException.__getattribute__") [.ref x, .str name t]) _ _ _
  refine wpAny_call ?_
  refine codeAny_call_builtin hplain F.entry_bexc_ga ?_
  refine @check_slot (model prog w) _ _ ⟨hp, g, d, t + 1, os⟩ "BaseException.__getattribute__" "BaseException" "__getattribute__" (.ref x) [.str name t] [] _ hk hsplit L4 (F.args_bexc_ga (.ref x) (.str name t)) ?_
  unfold Builtin.«object.__getattribute__» slotArgs
  refine wpAny_bind ?_
  dsimp only
  rw [if_neg (by decide), if_neg (by simp)]
  refine wpAny_pure ?_
  dsimp only
  refine wpAny_bind (wpAny_of_eq (a := name) rfl (wpAny_bind (L0.at (wpAny_bind (L3.at ?_)))))
  refine wpAny_pure ?_
  dsimp only
  first | (rw [handedOut_of hh]; exact wpAny_pure h) | (refine wpAny_bind ?_; rw [handedOut_of hh]; exact wpAny_pure h)
theorem get_why {h₀ : Heap} {L : Addr} {m : Str → Option Value} {v : Value} {es : List DictEntry} {n : Nat} {attr : Option Value} (F : Fr h₀ L s.heap m) (X₀ : K.In h₀) (I : InstAt s.heap x ox C (some (dictOf es n)))
    (hga : findIn K (.ref C) "__getattribute__" = some (some (.builtin "BaseException.__getattribute__"))) (hgt : findIn K (.ref C) "__getattr__" = some none)
    (hb : mroIn K C (.type "BaseException") = some true) (hd : hasDictIn K C = true) (ha : findIn K (.ref C) name = some attr) (hn : noGet K attr = true) (hl : getL name es = some (some v)) (hh : handedIn v = true) (h : Q v { s with toks := s.toks + 1 }) :
    wpAny (model prog w) A (getAttr (.ref x) name expr) Q E s := get_exc (X₀.keeps F.keep) I hga hgt hb (findObj_own hd ha hn hl) hh h
end
end
section
open PySem.Spec PyProof.V
def OKD (n : Nat) (d : PyData) : Prop := PyData.canLay0 d = true ∧ PyData.depth d ≤ n ∧ PyData.eqv d d = true
theorem okAll {n : Nat} : ∀ {ds : List PyData}, (∀ d ∈ ds, OKD n d) → PyData.canLayAll0 ds = true ∧ PyData.depthAll ds ≤ n ∧ PyData.eqvAll ds ds = true
  | [], _ => by simp [PyData.canLayAll0, PyData.depthAll, PyData.eqvAll]
  | d :: r, h => by
    obtain ⟨a1, a2, a3⟩ := h d (.head _)
    obtain ⟨b1, b2, b3⟩ := okAll (ds := r) fun e he => h e (.tail _ he)
    simp only [PyData.canLayAll0, PyData.depthAll, PyData.eqvAll, a1, b1, a3, b3, Bool.and_self, true_and, and_true]
    omega
theorem ok_none {n : Nat} : OKD n .none := by simp [OKD, PyData.canLay0, PyData.depth, PyData.eqv]
theorem ok_int {n : Nat} (i : Int) : OKD n (.int i) := by simp [OKD, PyData.canLay0, PyData.depth, PyData.eqv]
theorem ok_str {n : Nat} {x : Str} (h : PyData.canLay0 (.str x) = true) : OKD n (.str x) := by
  refine ⟨h, ?_, ?_⟩
  · simp [PyData.depth]
  · simp [PyData.eqv]
theorem ok_tuple {n : Nat} {ds : List PyData} (h : ∀ d ∈ ds, OKD n d) : OKD (n + 1) (.tuple ds) := by
  obtain ⟨a, b, c⟩ := okAll h
  refine ⟨by simp only [PyData.canLay0, a], by simp only [PyData.depth]; omega, by simp only [PyData.eqv, c]⟩
theorem ok_list {n : Nat} {ds : List PyData} (h : ∀ d ∈ ds, OKD n d) : OKD (n + 1) (.list ds) := by
  obtain ⟨a, b, c⟩ := okAll h
  refine ⟨by simp only [PyData.canLay0, a], by simp only [PyData.depth]; omega, by simp only [PyData.eqv, c]⟩
theorem ok_shaped {n : Nat} {d : PyData} (h : OKD n d) (hn : n ≤ 64) : SeqAt.shaped d = true := by
  simp only [SeqAt.shaped, h.1, Bool.true_and, decide_eq_true_eq]; exact Nat.le_trans h.2.1 hn
def Cell (v : Value) : Prop := v = .none ∨ ∃ i t, v = .int i t
def pd : Value → PyData
  | .int i _ => .int i
  | _ => .none
theorem ok_pd {n : Nat} (v : Value) : OKD n (pd v) := by
  cases v <;> first | exact ok_none | exact ok_int _
theorem reads_cell {h : Heap} {v : Value} (c : Cell v) : Reads h v (pd v) [] := by
  rcases c with rfl | ⟨i, t, rfl⟩
  · exact .none
  · exact .int i t
theorem readsAll_cells {h : Heap} : ∀ {vs : List Value}, (∀ v ∈ vs, Cell v) → ReadsAll h vs (vs.map pd) []
  | [], _ => .nil
  | v :: r, c => ReadsAll.cons (as := []) (bs := []) (reads_cell (c v (.head _))) (readsAll_cells fun u hu => c u (.tail _ hu))
theorem cell_handed {v : Value} (c : Cell v) : handedIn v = true := by
  rcases c with rfl | ⟨i, t, rfl⟩ <;> rfl
section
variable {prog : Program} {w : World} {A : Around} {E : Value → Shared → Prop} {s : Shared} {Q : Value → Shared → Prop} {h₀ : Heap} {L a b : Addr} {news : List (Addr × Obj)}
theorem ne_same {n : Nat} {d : PyData} {x y : Value} {as bs : List Addr} (h : Q (.bool false) s) (hx : Reads s.heap x d as) (hy : Reads s.heap y d bs) (ok : OKD n d) (hn : n ≤ 64) (hu : A.units + 64 < cLine) :
    wpAny (model prog w) A (compareOp .NotEq x y) Q E s := ne_dataH hx hy (ok_shaped ok hn) (ok_shaped ok hn) hu (by rw [ok.2.2]; exact h)
theorem eq_same {n : Nat} {d : PyData} {x y : Value} {as bs : List Addr} (h : Q (.bool true) s) (hx : Reads s.heap x d as) (hy : Reads s.heap y d bs) (ok : OKD n d) (hn : n ≤ 64) (hu : A.units + 64 < cLine) :
    wpAny (model prog w) A (compareOp .Eq x y) Q E s := eq_dataH hx hy (ok_shaped ok hn) (ok_shaped ok hn) hu (by rw [ok.2.2]; exact h)
theorem ne_kind {kd mo : Value} {n : Int} {t1 t2 : Tok} (h : Q (.bool false) s) (N : News h₀ L s.heap news := by k_asm) (ha : (a, tupObj [kd, .int n t1, mo]) ∈ news := by k_mem) (hb : (b, tupObj [kd, .int n t2, mo]) ∈ news := by k_mem) (ck : Cell kd := by assumption) (cm : Cell mo := by assumption) (hu : A.units + 64 < cLine := by ktr_units) :
    wpAny (model prog w) A (compareOp .NotEq (.ref a) (.ref b)) Q E s := by
  have r : ∀ t, ReadsAll s.heap ([kd, .int n t, mo].toArray.toList) [pd kd, .int n, pd mo] ([] ++ ([] ++ ([] ++ []))) := fun t => .cons (reads_cell ck) (.cons (.int n t) (.cons (reads_cell cm) .nil))
  exact ne_same (n := 1) (d := .tuple [pd kd, .int n, pd mo]) h (reads_tuple_at (N.get ha) rfl rfl (r t1)) (reads_tuple_at (N.get hb) rfl rfl (r t2)) (ok_tuple (n := 0) (by
    intro d hd
    simp only [List.mem_cons, List.not_mem_nil, or_false] at hd
    rcases hd with rfl | rfl | rfl
    · exact ok_pd _
    · exact ok_int _
    · exact ok_pd _)) (by decide) hu
theorem ne_plain {kd mo : Value} {vs : List Value} {a2 b2 : Addr} (h : Q (.bool false) s) (N : News h₀ L s.heap news := by k_asm) (ha : (a, tupObj [kd, mo, .ref a2]) ∈ news := by k_mem) (hb : (b, tupObj [kd, mo, .ref b2]) ∈ news := by k_mem)
    (ha2 : (a2, tupObj vs) ∈ news := by k_mem) (hb2 : (b2, tupObj vs) ∈ news := by k_mem) (ck : Cell kd := by assumption) (cm : Cell mo := by assumption) (cv : ∀ v ∈ vs, Cell v := by assumption) (hu : A.units + 64 < cLine := by ktr_units) :
    wpAny (model prog w) A (compareOp .NotEq (.ref a) (.ref b)) Q E s := by
  have r : ∀ c, (c, tupObj vs) ∈ news → ReadsAll s.heap ([kd, mo, .ref c].toArray.toList) [pd kd, pd mo, .tuple (vs.map pd)] ([] ++ ([] ++ ([] ++ []))) := fun c hc =>
    .cons (reads_cell ck) (.cons (reads_cell cm) (.cons (reads_tuple_at (N.get hc) rfl rfl (readsAll_cells cv)) .nil))
  exact ne_same (n := 2) (d := .tuple [pd kd, pd mo, .tuple (vs.map pd)]) h (reads_tuple_at (N.get ha) rfl rfl (r a2 ha2)) (reads_tuple_at (N.get hb) rfl rfl (r b2 hb2)) (ok_tuple (n := 1) (by
    intro d hd
    simp only [List.mem_cons, List.not_mem_nil, or_false] at hd
    rcases hd with rfl | rfl | rfl
    · exact ok_pd _
    · exact ok_pd _
    · refine ok_tuple (n := 0) fun d hd => ?_
      obtain ⟨v, _, rfl⟩ := List.mem_map.mp hd
      exact ok_pd v)) (by decide) hu
theorem ne_told {x : Str} {k1 k2 : Tok} {v1 v2 : Value} (h : Q (.bool false) s) (N : News h₀ L s.heap news) (ha : (a, tupObj [.str x k1, v1]) ∈ news) (hb : (b, tupObj [.str x k2, v2]) ∈ news) (c1 : Cell v1) (c2 : Cell v2) (e : pd v1 = pd v2) (hx : PyData.canLay0 (.str x) = true) (hu : A.units + 64 < cLine) :
    wpAny (model prog w) A (compareOp .NotEq (.ref a) (.ref b)) Q E s := by
  have r : ∀ k v, Cell v → ReadsAll s.heap ([.str x k, v].toArray.toList) [.str x, pd v] ([] ++ ([] ++ [])) := fun k v c => .cons (.str x k) (.cons (reads_cell c) .nil)
  exact ne_same (n := 1) (d := .tuple [.str x, pd v1]) h (reads_tuple_at (N.get ha) rfl rfl (r k1 v1 c1)) (reads_tuple_at (N.get hb) rfl rfl (by have := r k2 v2 c2; rwa [← e] at this)) (ok_tuple (n := 0) (by
    intro d hd
    simp only [List.mem_cons, List.not_mem_nil, or_false] at hd
    rcases hd with rfl | rfl
    · exact ok_str hx
    · exact ok_pd _)) (by decide) hu
theorem eq_segs {u v : List Value} {n m : Nat} {a0 a1 b0 b1 : Addr} {n0 n1 m0 m1 : Nat} (h : Q (.bool true) s) (N : News h₀ L s.heap news := by k_asm) (ha : (a, listOf [.ref a0, .ref a1, .none].toArray n) ∈ news := by k_mem) (hb : (b, listOf [.ref b0, .ref b1, .none].toArray m) ∈ news := by k_mem)
    (ha0 : (a0, listOf u.toArray n0) ∈ news := by k_mem) (ha1 : (a1, listOf v.toArray n1) ∈ news := by k_mem) (hb0 : (b0, listOf u.toArray m0) ∈ news := by k_mem) (hb1 : (b1, listOf v.toArray m1) ∈ news := by k_mem)
    (cu : ∀ x ∈ u, Cell x := by assumption) (cv : ∀ x ∈ v, Cell x := by assumption) (hu : A.units + 64 < cLine := by ktr_units) :
    wpAny (model prog w) A (compareOp .Eq (.ref a) (.ref b)) Q E s := by
  have r : ∀ p q k l, (p, listOf u.toArray k) ∈ news → (q, listOf v.toArray l) ∈ news → ReadsAll s.heap ([.ref p, .ref q, .none].toArray.toList) [.list (u.map pd), .list (v.map pd), .none] ([p] ++ ([q] ++ ([] ++ []))) := fun p q k l hp hq =>
    .cons (reads_list_at (N.get hp) rfl rfl (readsAll_cells cu)) (.cons (reads_list_at (N.get hq) rfl rfl (readsAll_cells cv)) (.cons .none .nil))
  exact eq_same (n := 2) (d := .list [.list (u.map pd), .list (v.map pd), .none]) h (reads_list_at (N.get ha) rfl rfl (r a0 a1 _ _ ha0 ha1)) (reads_list_at (N.get hb) rfl rfl (r b0 b1 _ _ hb0 hb1)) (ok_list (n := 1) (by
    intro d hd
    simp only [List.mem_cons, List.not_mem_nil, or_false] at hd
    rcases hd with rfl | rfl | rfl
    · refine ok_list (n := 0) fun d hd => ?_
      obtain ⟨v, _, rfl⟩ := List.mem_map.mp hd
      exact ok_pd v
    · refine ok_list (n := 0) fun d hd => ?_
      obtain ⟨v, _, rfl⟩ := List.mem_map.mp hd
      exact ok_pd v
    · exact ok_none)) (by decide) hu
end
end
section
def updL (l : Addr) (o' : Obj) (news : List (Addr × Obj)) : List (Addr × Obj) := news.map fun p => if p.1 = l then (l, o') else p
section
variable {l b L D : Addr} {o o' ob : Obj} {news : List (Addr × Obj)} {h₀ h : Heap} {m : Str → Option Value} {f : Obj → Obj}
theorem updL_ne (h : (b, ob) ∈ news) (n : b ≠ l) : (b, ob) ∈ updL l o' news := List.mem_map.mpr ⟨(b, ob), h, if_neg n⟩
theorem updL_self (h : (l, o) ∈ news) : (l, o') ∈ updL l o' news := List.mem_map.mpr ⟨(l, o), h, if_pos rfl⟩
theorem updL_keys {p : Addr × Obj} (h : p ∈ updL l o' news) : ∃ q ∈ news, q.1 = p.1 := by
  obtain ⟨q, hq, rfl⟩ := List.mem_map.mp h
  refine ⟨q, hq, ?_⟩
  by_cases e : q.1 = l
  · rw [if_pos e]; exact e
  · rw [if_neg e]
theorem updL_lt (h : ∀ p ∈ news, p.1 < D) : ∀ p ∈ updL l o' news, p.1 < D := fun p hp => by
  obtain ⟨q, hq, e⟩ := updL_keys hp
  rw [← e]; exact h q hq
theorem updL_sub {big : List (Addr × Obj)} (h : ∀ p ∈ news, p ∈ big) : ∀ p ∈ updL l o' news, p ∈ updL l o' big := fun p hp => by
  obtain ⟨q, hq, rfl⟩ := List.mem_map.mp hp
  exact List.mem_map.mpr ⟨q, h q hq, rfl⟩
theorem news_sub {big : List (Addr × Obj)} (N : News h₀ L h big) (hs : ∀ p ∈ news, p ∈ big) : News h₀ L h news := fun p hp => N p (hs p hp)
theorem sub_drop2 {a b : Addr × Obj} {r : List (Addr × Obj)} : ∀ p ∈ a :: r, p ∈ a :: b :: r := fun p hp => by
  rcases List.mem_cons.mp hp with rfl | hp
  · exact .head _
  · exact .tail _ (.tail _ hp)
theorem sub_drop3 {a b c : Addr × Obj} {r : List (Addr × Obj)} : ∀ p ∈ a :: r, p ∈ a :: b :: c :: r := fun p hp => by
  rcases List.mem_cons.mp hp with rfl | hp
  · exact .head _
  · exact .tail _ (.tail _ (.tail _ hp))
theorem updL_same (h : (l, o) ∈ news) : ∀ p ∈ updL l o news, p ∈ news := fun p hp => by
  obtain ⟨q, hq, rfl⟩ := List.mem_map.mp hp
  by_cases e : q.1 = l
  · rw [if_pos e]; exact h
  · rw [if_neg e]; exact hq
theorem ne_new (h : ∀ p ∈ news, p.1 < D) (hm : (l, o) ∈ news) : l ≠ D := Nat.ne_of_lt (h _ hm)
theorem updL_news (F : Fr h₀ L h m) (N : News h₀ L h news) (hm : (l, o) ∈ news) (e : f o = o') (hf : o'.isFreed = false) : Fr h₀ L (h.update l f) m ∧ News h₀ L (h.update l f) (updL l o' news) := by
  have Z := N (l, o) hm
  refine ⟨F.change (Heap.SameBut.update ..) Z.2.1 Z.2.2, fun p hp => ?_⟩
  obtain ⟨q, hq, rfl⟩ := List.mem_map.mp hp
  by_cases e' : q.1 = l
  · rw [if_pos e']
    exact ⟨e ▸ Heap.get?_update_self _ Z.1 (e ▸ hf), Z.2⟩
  · rw [if_neg e']
    exact ⟨(Heap.get?_update_ne _ _ _ _ e').trans (N q hq).1, (N q hq).2⟩
end
section
variable {prog : Program} {w : World} {A : Around} {E : Value → Shared → Prop} {s : Shared} {h₀ : Heap} {L l b : Addr} {m : Str → Option Value} {news : List (Addr × Obj)} {its its2 : List Value} {n n2 : Nat}
theorem isL (N : News h₀ L s.heap news) (hi : (l, listOf its.toArray n) ∈ news) : s.heap.IsList l its.toArray := PySem.IsL.isList (n := n) (N _ hi).1
theorem lst_len {Q : Value → Shared → Prop} (h : Q (.int its.length (s.toks + 1)) { s with toks := s.toks + 1 + 1 }) (N : News h₀ L s.heap news := by k_asm) (hi : (l, listOf its.toArray n) ∈ news := by k_mem) (hz : its.length ≤ 1000 := by (first | assumption | omega | (simp only [List.length_set, List.length_append, List.length_replicate, List.length_take, List.length_drop, List.length_cons, List.length_nil, List.length_map, List.length_range]; omega))) :
    wpAny (model prog w) A (call (.builtin "len") [.ref l]) Q E s :=
  len_list (isL N hi) (by rw [List.size_toArray]; omega) (by rw [List.size_toArray]; exact h)
theorem lst_set {k : Int} {t : Tok} {v : Value} {Q : Unit → Shared → Prop}
    (h : ∀ h', Fr h₀ L h' m → News h₀ L h' (updL l (listOf (its.set k.toNat v).toArray n) news) → Q () { s with heap := h' }) (F : Fr h₀ L s.heap m := by k_asm) (N : News h₀ L s.heap news := by k_asm) (hi : (l, listOf its.toArray n) ∈ news := by k_mem) (h0 : 0 ≤ k := by omega) (hk : k < its.length := by omega) (hz : its.length ≤ 1000 := by (first | assumption | omega | (simp only [List.length_set, List.length_append, List.length_replicate, List.length_take, List.length_drop, List.length_cons, List.length_nil, List.length_map, List.length_range]; omega))) :
    wpAny (model prog w) A (setItem (.ref l) (.int k t) v) Q E s := by
  refine ki_setAt (N _ hi).1 h0 (by omega) (by rw [List.size_toArray]; exact hk) ?_
  obtain ⟨F', N'⟩ := updL_news (f := Obj.mapSeq (·.setIfInBounds k.toNat v)) (o' := listOf (its.set k.toNat v).toArray n) F N hi (by
    simp [Obj.mapSeq]) rfl
  exact h _ F' N'
theorem lst_get {k : Int} {u : Tok} {x : Value} {value slice : Expr} {Q : Value → Shared → Prop} (h : Q x s) (N : News h₀ L s.heap news := by k_asm) (hi : (l, listOf its.toArray n) ∈ news := by k_mem) (h0 : 0 ≤ k := by omega) (hf : k < 1000 := by omega) (hx : its[k.toNat]? = some x := by first | assumption | rfl)
    (hs : subscripted slice false (.ref l) (.int k u) = operate [.ref l, .int k u] (getItem (.ref l) (.int k u)) := by with_unfolding_all rfl) (hg : ∀ r, letTemporaryGo value (.ref l) r = pure () := by intro _; with_unfolding_all rfl) :
    wpAny (model prog w) A (subscriptTail value slice (.ref l) (.int k u)) Q E s :=
  kim_list N hi rfl rfl h0 (by omega) hx h hs hg
theorem lst_slice {x y : Int} {tx ty : Tok} {value slice : Expr} {Q : Value → Shared → Prop}
    (h : ∀ D h', Fr h₀ L h' m → News h₀ L h' ((D, listOf ((its.drop x.toNat).take (y.toNat - x.toNat)).toArray 0) :: news) → (∀ p ∈ news, p.1 < D) → Q (.ref D) { s with heap := h' })
    (F : Fr h₀ L s.heap m := by k_asm) (N : News h₀ L s.heap news := by k_asm) (hi : (l, listOf its.toArray n) ∈ news := by k_mem) (h0 : 0 ≤ x := by omega) (h1 : x ≤ y := by omega) (h2 : y ≤ its.length := by first | omega | (simp only [List.length_nil]; omega)) (hz : its.length ≤ 1000 := by (first | assumption | omega | (simp only [List.length_set, List.length_append, List.length_replicate, List.length_take, List.length_drop, List.length_cons, List.length_nil, List.length_map, List.length_range]; omega)))
    (hs : subscripted slice false (.ref l) (.ref s.heap.objs.size) = operate [.ref s.heap.objs.size, .ref l] (getItem (.ref l) (.ref s.heap.objs.size)) := by with_unfolding_all rfl) (ht : ∀ r, letTemporaryGo value (.ref l) r = pure () := by intro _; with_unfolding_all rfl) :
    wpAny (model prog w) A (subscriptTail value slice (.ref l) (.ref s.heap.objs.size)) Q E { s with heap := s.heap.push { cls := .type "slice", data := .fields #[.int x tx, .int y ty, .none] } } := by
  refine kmk_slice_lit F N (isL N hi) (.int x tx) (.int y ty) ?_ h hs ht (by rw [List.size_toArray, sizeLine_eq]; omega)
  obtain ⟨a, rfl⟩ := Int.eq_ofNat_of_zero_le h0
  obtain ⟨c, rfl⟩ := Int.eq_ofNat_of_zero_le (Int.le_trans h0 h1)
  rw [slicePick_run its.toArray a c (by rw [List.size_toArray]; omega) (by omega)]
  rfl
theorem lst_tuple {Q : Value → Shared → Prop}
    (h : ∀ D h', Fr h₀ L h' m → News h₀ L h' ((D, ({ cls := .type "tuple", data := .seq its.toArray } : Obj)) :: news) → (∀ p ∈ news, p.1 < D) → Q (.ref D) { s with heap := h' }) (F : Fr h₀ L s.heap m := by k_asm) (N : News h₀ L s.heap news := by k_asm) (hi : (l, listOf its.toArray n) ∈ news := by k_mem) (hz : its.length ≤ 1000 := by (first | assumption | omega | (simp only [List.length_set, List.length_append, List.length_replicate, List.length_take, List.length_drop, List.length_cons, List.length_nil, List.length_map, List.length_range]; omega))) :
    wpAny (model prog w) A (call (.type "tuple") [.ref l]) Q E s :=
  kde_tupleOf F N (isL N hi) (by rw [List.size_toArray]; omega) rfl h
theorem lst_mul {k : Int} {u : Tok} {v : Value} {Q : Value → Shared → Prop}
    (h : ∀ D h', Fr h₀ L h' m → News h₀ L h' ((D, listOf (List.replicate k.toNat v).toArray 0) :: news) → (∀ p ∈ news, p.1 < D) → Q (.ref D) { s with heap := h' }) (F : Fr h₀ L s.heap m := by k_asm) (N : News h₀ L s.heap news := by k_asm) (hi : (l, listOf [v].toArray n) ∈ news := by k_mem) (h0 : 0 ≤ k := by omega) (h1 : k ≤ 200 := by omega) :
    wpAny (model prog w) A (binaryOp .Mult (.ref l) (.int k u)) Q E s :=
  KMa.mul F N (isL N hi) (by omega) (by omega) (by simp; omega) (by simp) h
theorem lst_add {Q : Value → Shared → Prop}
    (h : ∀ D h', Fr h₀ L h' m → News h₀ L h' ((D, listOf (its ++ its2).toArray 0) :: news) → (∀ p ∈ news, p.1 < D) → Q (.ref D) { s with heap := h' }) (F : Fr h₀ L s.heap m := by k_asm) (N : News h₀ L s.heap news := by k_asm) (hi : (l, listOf its.toArray n) ∈ news := by k_mem) (hb : (b, listOf its2.toArray n2) ∈ news := by k_mem) (hz : its.length + its2.length ≤ 1000 := by (first | assumption | omega | (simp only [List.length_set, List.length_append, List.length_replicate, List.length_take, List.length_drop, List.length_cons, List.length_nil, List.length_map, List.length_range]; omega))) :
    wpAny (model prog w) A (binaryOp .Add (.ref l) (.ref b)) Q E s :=
  kmk_add_lit F N (isL N hi) (isL N hb) (by simp) h (by rw [sizeLine_eq]; simp; omega)
theorem lst_extend {Q : Value → Shared → Prop}
    (h : ∀ h' n', Fr h₀ L h' m → News h₀ L h' (updL l (listOf (its ++ its2).toArray n') news) → Q .none { s with heap := h' }) (F : Fr h₀ L s.heap m := by k_asm) (N : News h₀ L s.heap news := by k_asm) (hi : (l, listOf its.toArray n) ∈ news := by k_mem) (hb : (b, listOf its2.toArray n2) ∈ news := by k_mem) (hz : its.length + its2.length ≤ 1000 := by (first | assumption | omega | (simp only [List.length_set, List.length_append, List.length_replicate, List.length_take, List.length_drop, List.length_cons, List.length_nil, List.length_map, List.length_range]; omega))) :
    wpAny (model prog w) A (call (.builtin "list.extend") [.ref l, .ref b]) Q E s := by
  refine call_meets PySem.F.slot_list_extend ⟨_, (N _ hi).1, rfl⟩ PySem.F.entry_list_extend (PySem.F.args_list_extend_2 _ _) (PySem.AutoSeq1.list_extend_list_list_0 l its.toArray n b its2.toArray n2 ?_ ?_ ?_) ⟨(N _ hi).1, (N _ hb).1, ?_⟩
  · simp only [Builtin.List.listTooLong, List.size_toArray, sizeLine_eq]
    simp
    omega
  · rw [List.size_toArray, sizeLine_eq]; omega
  · rw [List.size_toArray, List.size_toArray, sizeLine_eq]; omega
  · obtain ⟨F', N'⟩ := updL_news (f := Obj.mapSeq (fun x => x ++ its2.toArray)) (o' := listOf (its ++ its2).toArray (if (its.toArray ++ its2.toArray).size == its.toArray.size then n else n + 1)) F N hi (by
      simp [Obj.mapSeq]) rfl
    exact h _ _ F' N'
end
section
variable {prog : Program} {w : World} {A : Around} {E : Value → Shared → Prop} {s : Shared} {h₀ : Heap} {L l b : Addr} {m : Str → Option Value} {news : List (Addr × Obj)} {its new : List Value} {n n2 : Nat}
theorem lst_setSlice_raw {sl : Addr} {x y : Int} {tx ty : Tok} {Q : Unit → Shared → Prop} (ho : s.heap.get? l = some (listOf its.toArray n)) (hb : s.heap.get? b = some (listOf new.toArray n2)) (hne : l ≠ b)
    (hs : s.heap.IsSliceOf sl (.int x tx) (.int y ty) .none) (h0 : 0 ≤ x) (h1 : x ≤ y) (h2 : y ≤ its.length) (hz : its.length + new.length ≤ 1000)
    (hQ : Q () { s with heap := s.heap.update l (Obj.mapSeq fun xs => xs.extract 0 x.toNat ++ new.toArray ++ xs.extract (max x y).toNat xs.size) }) : wpAny (model prog w) A (setItem (.ref l) (.ref sl) (.ref b)) Q E s := by
  have hl : s.heap.IsList l its.toArray := PySem.IsL.isList (n := n) ho
  obtain ⟨os, hos, hcs, hds⟩ := id hs
  have hTs : s.TypeIs (.ref sl) "slice" := ⟨os, hos, hcs⟩
  have hTb : s.TypeIs (.ref b) "list" := ⟨_, hb, rfl⟩
  unfold setItem
  try with_reducible refine wpAny_holding ?_
  first | refine wpAny_bind (wpAny_pure ?_) | skip
  refine wpAny_bind (wpAny_sequenceKey hl.typeIs (by decide) ?_)
  refine wpAny_bind (wpAny_callSpecial?_slot (name := Str.ofString "__setitem__") hl.typeIs slot_list_setitem
    (wpAny_call_entry slot_list_setitem hl.typeIs entry_list_setitem ?_ (args_list_setitem _ _ _)))
  show wpAny _ _ (Builtin.List.listSubscript? (.ref sl) >>= _) _ _ s
  refine wpAny_bind ?_
  unfold Builtin.List.listSubscript?
  refine wpAny_bind (wpAny_specialOf hTs slice_no_index ?_)
  simp only [Option.isNone_none, if_true]
  refine wpAny_pure ?_
  show wpAny _ _ (typeOf (.ref sl) >>= _) _ _ s
  refine wpAny_bind (wpAny_typeOf hTs ?_)
  rw [if_neg (by decide)]
  rw [listSliceParts_eq]
  refine wpAny_bind (wpAny_bind (wpAny_field hos hds (x := .none) rfl (wpAny_bind (wpAny_listPart .none ?_))))
  rw [if_neg (by exact Bool.false_ne_true)]
  refine wpAny_bind (wpAny_field hos hds (x := .int x tx) rfl (wpAny_bind (wpAny_listPart (.int x tx) ?_)))
  refine wpAny_bind (wpAny_field hos hds (x := .int y ty) rfl (wpAny_bind (wpAny_listPart (.int y ty) (wpAny_pure ?_))))
  have hsame : Builtin.List.listSameRef (.ref l) (.ref b) = false := by
    show (l == b) = false
    exact beq_eq_false_iff_ne.mpr hne
  simp only [hsame, Bool.false_eq_true, if_false]
  refine wpAny_bind (m := Builtin.List.listAllItems (.ref b) _) ?_
  unfold Builtin.List.listAllItems Builtin.List.listItems
  refine wpAny_bind (wpAny_typeOf hTb ?_)
  rw [if_pos (by decide)]
  refine wpAny_bind (wpAny_seqItems hb rfl (wpAny_pure ?_))
  refine wpAny_bind (wpAny_bind (wpAny_seqItems ho rfl (wpAny_pure ?_)))
  refine wpAny_bind (wpAny_of_eq (sliceIndices_raw (some x) (some y) none its.toArray.size (by simp)) ?_)
  have hsz : its.toArray.size = its.length := List.size_toArray
  have eb : sliceBounds (some x) (some y) none its.toArray.size = (x, y, 1) := by
    rw [hsz]
    simp only [sliceBounds, Option.getD_none, show (1 : Int) > 0 by decide, if_true, if_neg (show ¬ (x < 0) by omega), if_neg (show ¬ (y < 0) by omega)]
    congr 1
    · omega
    · congr 1; omega
  rw [eb]
  dsimp only
  rw [if_pos (by decide)]
  refine wpAny_bind (wpAny_rule ?_)
  rw [if_neg (by simp [Builtin.List.listTooLong, sizeLine_eq]; omega)]
  refine wpAny_bind (wpAny_updateSeq ho rfl ?_ (by rw [hsz, sizeLine_eq]; omega) ?_)
  · exact wpAny_bind (wpAny_letGo (wpAny_pure ⟨.none, rfl, wpAny_pure hQ⟩))
  · simp [sizeLine_eq]
    omega
theorem mapSeq_at {f : Array Value → Array Value} {Z : List Value} (e : f its.toArray = Z.toArray) : Obj.mapSeq f (listOf its.toArray n) = listOf Z.toArray (if Z.length == its.length then n else n + 1) := by
  simp only [Obj.mapSeq, e, List.size_toArray]
theorem lst_setSlice {x y : Int} {tx ty : Tok} {Q : Unit → Shared → Prop}
    (h : ∀ h' n', Fr h₀ L h' m → News h₀ L h' (updL l (listOf (its.take x.toNat ++ new ++ its.drop y.toNat).toArray n') news) → Q () { s with heap := h' })
    (F : Fr h₀ L s.heap m := by k_asm) (N : News h₀ L s.heap news := by k_asm) (hi : (l, listOf its.toArray n) ∈ news := by k_mem) (hb : (b, listOf new.toArray n2) ∈ news := by k_mem) (hne : l ≠ b := by first | exact ne_new (by assumption) (by k_mem) | assumption)
    (h0 : 0 ≤ x := by omega) (h1 : x ≤ y := by omega) (h2 : y ≤ its.length := by omega) (hz : its.length + new.length ≤ 1000 := by (first | assumption | omega | (simp only [List.length_set, List.length_append, List.length_replicate, List.length_take, List.length_drop, List.length_cons, List.length_nil, List.length_map, List.length_range]; omega))) :
    wpAny (model prog w) A (setItem (.ref l) (.ref s.heap.objs.size) (.ref b)) Q E { s with heap := s.heap.push { cls := .type "slice", data := .fields #[.int x tx, .int y ty, .none] } } := by
  have F1 := F.push { cls := .type "slice", data := .fields #[.int x tx, .int y ty, .none] }
  have N1 : News h₀ L (s.heap.push { cls := .type "slice", data := .fields #[.int x tx, .int y ty, .none] }) news := N.grown fun _ _ e => Heap.get?_push_of_some _ e
  refine lst_setSlice_raw (N1 _ hi).1 (N1 _ hb).1 hne (Heap.IsSliceOf.new ..) h0 h1 h2 hz ?_
  have em : max x y = y := by omega
  obtain ⟨F', N'⟩ := updL_news (f := Obj.mapSeq fun xs => xs.extract 0 x.toNat ++ new.toArray ++ xs.extract (max x y).toNat xs.size) (o' := listOf (its.take x.toNat ++ new ++ its.drop y.toNat).toArray (if (its.take x.toNat ++ new ++ its.drop y.toNat).length == its.length then n else n + 1)) F1 N1 hi (by
    rw [em]
    have e : its.toArray.extract 0 x.toNat ++ new.toArray ++ its.toArray.extract y.toNat its.toArray.size = (its.take x.toNat ++ new ++ its.drop y.toNat).toArray := by
      apply Array.toList_inj.mp
      simp
      exact List.take_of_length_le (by simp)
    exact mapSeq_at e) rfl
  exact h _ _ F' N'
end
end
abbrev TDict (w : World) (k1 k2 k3 k4 : Tok) (kd mo el : Value) (i : Addr) : Obj :=
  dictOf [⟨PyData.keyHash w.params "kind", .str "kind" k1, kd⟩, ⟨PyData.keyHash w.params "most", .str "most" k2, mo⟩, ⟨PyData.keyHash w.params "elements", .str "elements" k3, el⟩, ⟨PyData.keyHash w.params "items", .str "items" k4, .ref i⟩] 4
set_option maxHeartbeats 1000000 in
theorem operand_tel (w : World) (a b c : Int) (ta tb tc : Tok) (news) (hc : c ≠ 0) : Tel w 199 10 40 [.int a ta, .int b tb, .int c tc] news
   (fun r n => (∃ tk, r = .int (if a.fmod 8 = 7 then a.fdiv 8 else ((a.fdiv 8 + b).fmod c)) tk) ∧ n = news) := by
  unfold Tel
  intro mean mg mb dp un gd cn cs fa0 ccd cl outer A₀ base h₀ L m s Q E B F X N T hkd hdp hun hret
  revert X; k_fill; intro X
  refine wpAny_call ?_
  k_dflt ktr_enter
  k_steps
  all_goals exact hret _ _ _ _ (by k_asm) (by k_asm) ⟨⟨_, by first | rw [if_pos (by assumption)] | rw [if_neg (by assumption)]⟩, rfl⟩
set_option maxHeartbeats 1000000 in
theorem want_within_ok (w : World) (a b c : Int) (ta tb tc : Tok) (v : Value) (news) (h1 : 0 ≤ a) (h2 : 0 ≤ b) (h3 : a + b ≤ c) : Tel w 65 12 50 [.int a ta, .int b tb, .int c tc, v] news
   (fun r n => r = .none ∧ n = news) := by
  unfold Tel
  intro mean mg mb dp un gd cn cs fa0 ccd cl outer A₀ base h₀ L m s Q E B F X N T hkd hdp hun hret
  revert X; k_fill; intro X
  refine wpAny_call ?_
  k_dflt ktr_enter
  k_steps
  all_goals first | omega | exact hret _ _ _ _ (by k_asm) (by k_asm) ⟨rfl, rfl⟩
section
local macro_rules | `(tactic| walk_at "call ref") => `(tactic| (k_here; k_dflt (show wpAny _ _ (call (Value.ref 44) _) _ _ _); k_dflt (refine' tel_use (C := trap_made _ _ _) (ret := ?_)); intro r9 n9 h' tk' F' N' hO; (have hO9 := hO); obtain ⟨e9, dx9, t9, k9, rest9, e1, e2, i1, i2, i3, i4, i5⟩ := hO9; subst e1; subst e2; refine ⟨_, _, _, rfl, Frag.In.keeps (by k_asm) (Fr.keep (by k_asm)), News.get (by k_asm) (.head _), ?_⟩; (try dsimp only)))
local macro_rules | `(tactic| walk_at "exec Raise some none") => `(tactic| (k_here; k_dflt (refine' raise_trap ?h ?_; (case h => exact rfl))))
local macro_rules | `(tactic| walk_at "leaving ref") => `(tactic| (k_here; k_dflt (refine' leave_made ?_); intro h' R' U'; (try dsimp only)))
set_option maxHeartbeats 1000000 in
theorem want_within_bad (w : World) (a b c : Int) (ta tb tc : Tok) (v : Value) (news) (h : ¬ (0 ≤ a ∧ 0 ≤ b ∧ a + b ≤ c)) : TelR w 65 12 50 [.int a ta, .int b tb, .int c tc, v] news 44 v := by
  unfold TelR
  intro mean mg mb dp un gd cn cs fa0 ccd cl outer A₀ base h₀ L m s Q E B F X N T hkd hdp hun hret
  revert X; k_fill; intro X
  refine wpAny_call ?_
  k_dflt ktr_enter
  k_steps
  all_goals first | omega | (refine' hret _ _ _ _ ?ea ?eb ?ec; (case eb => k_asm); (case ea => k_asm); (case ec => first | k_asm | exact raisedX_sub (by assumption) (fun p hp => by first | exact hp | exact sub_drop2 p hp | exact sub_drop3 p hp | exact .tail _ hp | exact .tail _ (.tail _ hp) | exact .tail _ (.tail _ (.tail _ hp)) | exact .tail _ (.tail _ (.tail _ (.tail _ hp))))))
end
theorem rs_j2_2 {M : Model} {A : Around} {E : Value → Shared → Prop} {env : Env} {s : Shared} {Q : Flow → Shared → Prop} (h : Q .next s) : wpAny M A (execs [] env) Q E s := by
  walk1
  exact h
local macro_rules | `(tactic| k_mem) => `(tactic| first | ktr_member | exact List.Mem.head _ | (refine' List.mem_cons_of_mem _ ?_; k_mem))
local macro_rules | `(tactic| walk_at "call builtin:len") => `(tactic| (k_here; k_dflt (refine' lst_len ?_); (try dsimp only)))
local macro_rules | `(tactic| walk_at "subscriptTail") => `(tactic| (k_here; (with_reducible show wpAny _ _ (subscriptTail _ _ (Value.ref _) (Value.int _ _)) _ _ _); k_dflt (refine' lst_get ?_); (try dsimp only)))
local macro_rules | `(tactic| walk_at "subscriptTail") => `(tactic| (k_here; (with_reducible show wpAny _ _ (subscriptTail _ _ (Value.ref _) (Value.ref _)) _ _ _); k_dflt (refine' lst_slice ?_); intro D' h' F' N' l1; (have l9 := l1); (try k_lt l9); (try dsimp only)))
local macro_rules | `(tactic| walk_at "setItem ref int") => `(tactic| (k_here; k_dflt (refine' lst_set ?_); intro h' F' N'; (try dsimp only)))
local macro_rules | `(tactic| walk_at "setItem ref ref") => `(tactic| (k_here; k_dflt (refine' lst_setSlice ?_); intro h' n' F' N'; (try dsimp only)))
local macro_rules | `(tactic| walk_at "call type:tuple") => `(tactic| (k_here; k_dflt (refine' lst_tuple ?_); intro D' h' F' N' l1; (have l9 := l1); (try k_lt l9); (try dsimp only)))
local macro_rules | `(tactic| walk_at "binaryOp Mult ref int") => `(tactic| (k_here; k_dflt (refine' lst_mul ?_); intro D' h' F' N' l1; (have l9 := l1); (try k_lt l9); (try dsimp only)))
local macro_rules | `(tactic| walk_at "binaryOp Add ref ref") => `(tactic| (k_here; k_dflt (refine' lst_add ?_); intro D' h' F' N' l1; (have l9 := l1); (try k_lt l9); (try dsimp only)))
local macro_rules | `(tactic| walk_at "call builtin:list.extend") => `(tactic| (k_here; k_dflt (refine' lst_extend ?_); intro h' n' F' N'; (try dsimp only)))
local macro_rules | `(tactic| walk_at "ite") => `(tactic| with_reducible (first | refine ite_pos rfl ?_ | refine ite_neg Bool.false_ne_true ?_))
section
section
local macro_rules | `(tactic| walk_at "call ref") => `(tactic| (k_here; k_dflt (show wpAny _ _ (call (Value.ref 65) _) _ _ _); k_dflt (refine' tel_use (C := want_within_ok _ _ _ _ _ _ _ _ _ (by assumption) (by assumption) (by assumption)) (ret := ?_)); intro r9 n9 h' tk' F' N' hO; obtain ⟨e1, e2⟩ := hO; subst e1; subst e2; (try dsimp only)))
set_option maxHeartbeats 1000000 in
theorem want_ok {w : World} {a b : Int} {ta tb : Tok} {k1 k2 k3 k4 : Tok} {kd mo el : Value} {t d i : Addr} {items : List Value} {c : Nat} {news : List (Addr × Obj)} (ht : (t, instObj 159 d) ∈ news := by k_mem) (hd : (d, TDict w k1 k2 k3 k4 kd mo el i) ∈ news := by k_mem) (hi : (i, listOf items.toArray c) ∈ news := by k_mem) (hz : items.length ≤ 400 := by assumption)
   (h1 : 0 ≤ a := by omega) (h2 : 0 ≤ b := by omega) (h3 : a + b ≤ items.length := by omega) : Tel w 107 14 60 [.ref t, .int a ta, .int b tb] news (fun r n => r = .none ∧ n = news) := by
  unfold Tel
  intro mean mg mb dp un gd cn cs fa0 ccd cl outer A₀ base h₀ L m s Q E B F X N T hkd hdp hun hret
  revert X; k_fill; intro X
  refine wpAny_call ?_
  k_dflt ktr_enter
  k_steps
  all_goals (exact hret _ _ _ _ (by k_asm) (by first | k_asm | exact news_sub (by assumption) (fun p hp => by first | exact hp | exact sub_drop2 p hp | exact sub_drop3 p hp | exact .tail _ hp | exact .tail _ (.tail _ hp) | exact .tail _ (.tail _ (.tail _ hp)) | exact .tail _ (.tail _ (.tail _ (.tail _ hp)))) | exact news_sub (by assumption) (updL_sub fun p hp => by first | exact hp | exact sub_drop2 p hp | exact sub_drop3 p hp | exact .tail _ hp | exact .tail _ (.tail _ hp) | exact .tail _ (.tail _ (.tail _ hp)) | exact .tail _ (.tail _ (.tail _ (.tail _ hp))))) ⟨rfl, rfl⟩)
end
section
local macro_rules | `(tactic| walk_at "call ref") => `(tactic| (k_here; k_dflt (show wpAny _ _ (call (Value.ref 65) _) _ _ _); k_dflt (refine' telR_use (C := want_within_bad _ _ _ _ _ _ _ _ _ (by assumption)) (ret := ?_)); intro e9 h' tk' g9 FX' UX' RX'; (try dsimp only)))
local macro_rules | `(tactic| walk_at "leaving ref") => `(tactic| (k_here; k_dflt (refine' leave_onX ?_); intro h' R' U'; (try dsimp only)))
set_option maxHeartbeats 1000000 in
theorem want_bad {w : World} {a b : Int} {ta tb : Tok} {k1 k2 k3 k4 : Tok} {kd mo el : Value} {t d i : Addr} {items : List Value} {c : Nat} {news : List (Addr × Obj)} (ht : (t, instObj 159 d) ∈ news := by k_mem) (hd : (d, TDict w k1 k2 k3 k4 kd mo el i) ∈ news := by k_mem) (hi : (i, listOf items.toArray c) ∈ news := by k_mem) (hz : items.length ≤ 400 := by assumption)
   (h : ¬ (0 ≤ a ∧ 0 ≤ b ∧ a + b ≤ items.length) := by omega) : TelR w 107 14 60 [.ref t, .int a ta, .int b tb] news 44 (.str "out of bounds table access" 254) := by
  unfold TelR
  intro mean mg mb dp un gd cn cs fa0 ccd cl outer A₀ base h₀ L m s Q E B F X N T hkd hdp hun hret
  revert X; k_fill; intro X
  refine wpAny_call ?_
  k_dflt ktr_enter
  k_steps
  all_goals (refine' hret _ _ _ _ ?ea ?eb ?ec; (case eb => k_asm); (case ea => k_asm); (case ec => first | k_asm | exact raisedX_sub (by assumption) (fun p hp => by first | exact hp | exact sub_drop2 p hp | exact sub_drop3 p hp | exact .tail _ hp | exact .tail _ (.tail _ hp) | exact .tail _ (.tail _ (.tail _ hp)) | exact .tail _ (.tail _ (.tail _ (.tail _ hp))))))
end
end
theorem rs_j3_3 {M : Model} {A : Around} {E : Value → Shared → Prop} {env : Env} {s : Shared} {Q : Flow → Shared → Prop} (h : Q .next s) : wpAny M A (execs [] env) Q E s := by
  walk1
  exact h
section
local macro_rules | `(tactic| k_handed) => `(tactic| assumption)
local macro_rules | `(tactic| ktr_rel) => `(tactic| first | exact ne_new (by assumption) (by k_mem) | assumption)
section
set_option maxHeartbeats 1000000 in
theorem size_tel {w : World} {k1 k2 k3 k4 : Tok} {kd mo el : Value} {t d i : Addr} {items : List Value} {c : Nat} {news : List (Addr × Obj)} (ht : (t, instObj 159 d) ∈ news := by k_mem) (hd : (d, TDict w k1 k2 k3 k4 kd mo el i) ∈ news := by k_mem) (hi : (i, listOf items.toArray c) ∈ news := by k_mem) (hz : items.length ≤ 400 := by assumption) : Tel w 93 14 60 [.ref t] news (fun r n => (∃ tk, r = .int items.length tk) ∧ n = news) := by
  unfold Tel
  intro mean mg mb dp un gd cn cs fa0 ccd cl outer A₀ base h₀ L m s Q E B F X N T hkd hdp hun hret
  revert X; k_fill; intro X
  refine wpAny_call ?_
  k_dflt ktr_enter
  k_steps
  all_goals (exact hret _ _ _ _ (by k_asm) (by first | k_asm | exact news_sub (by assumption) (fun p hp => by first | exact hp | exact sub_drop2 p hp | exact sub_drop3 p hp | exact .tail _ hp | exact .tail _ (.tail _ hp) | exact .tail _ (.tail _ (.tail _ hp)) | exact .tail _ (.tail _ (.tail _ (.tail _ hp)))) | exact news_sub (by assumption) (updL_sub fun p hp => by first | exact hp | exact sub_drop2 p hp | exact sub_drop3 p hp | exact .tail _ hp | exact .tail _ (.tail _ hp) | exact .tail _ (.tail _ (.tail _ hp)) | exact .tail _ (.tail _ (.tail _ (.tail _ hp))))) ⟨⟨_, rfl⟩, rfl⟩)
set_option maxHeartbeats 1000000 in
theorem kind_tel {w : World} {k1 k2 k3 k4 : Tok} {kd mo el : Value} {t d i : Addr} {items : List Value} {c : Nat} {news : List (Addr × Obj)} (ht : (t, instObj 159 d) ∈ news := by k_mem) (hd : (d, TDict w k1 k2 k3 k4 kd mo el i) ∈ news := by k_mem) (hi : (i, listOf items.toArray c) ∈ news := by k_mem) (hz : items.length ≤ 400 := by assumption) (hkd' : handedIn kd = true) (hmo : handedIn mo = true) : Tel w 100 14 60 [.ref t] news (fun r n => ∃ D tk, r = .ref D ∧ n = (D, tupObj [kd, .int items.length tk, mo]) :: news ∧ ∀ p ∈ news, p.1 < D) := by
  unfold Tel
  intro mean mg mb dp un gd cn cs fa0 ccd cl outer A₀ base h₀ L m s Q E B F X N T hkd hdp hun hret
  revert X; k_fill; intro X
  refine wpAny_call ?_
  k_dflt ktr_enter
  k_steps
  all_goals (exact hret _ _ _ _ (by k_asm) (by first | k_asm | exact news_sub (by assumption) (fun p hp => by first | exact hp | exact sub_drop2 p hp | exact sub_drop3 p hp | exact .tail _ hp | exact .tail _ (.tail _ hp) | exact .tail _ (.tail _ (.tail _ hp)) | exact .tail _ (.tail _ (.tail _ (.tail _ hp)))) | exact news_sub (by assumption) (updL_sub fun p hp => by first | exact hp | exact sub_drop2 p hp | exact sub_drop3 p hp | exact .tail _ hp | exact .tail _ (.tail _ hp) | exact .tail _ (.tail _ (.tail _ hp)) | exact .tail _ (.tail _ (.tail _ (.tail _ hp))))) ⟨_, _, rfl, rfl, by assumption⟩)
theorem of_allLt {news : List (Addr × Obj)} {D : Addr} (h : AllLt D news) : ∀ p ∈ news, p.1 < D := by
  induction news with
  | nil => intro p hp; cases hp
  | cons q r ih =>
    intro p hp
    rcases List.mem_cons.mp hp with rfl | hp
    · exact h.1
    · exact ih h.2 p hp
set_option maxHeartbeats 1000000 in
theorem plain_tel {w : World} {k1 k2 k3 k4 : Tok} {kd mo el : Value} {t d i : Addr} {items : List Value} {c : Nat} {news : List (Addr × Obj)} (ht : (t, instObj 159 d) ∈ news := by k_mem) (hd : (d, TDict w k1 k2 k3 k4 kd mo el i) ∈ news := by k_mem) (hi : (i, listOf items.toArray c) ∈ news := by k_mem) (hz : items.length ≤ 400 := by assumption) (hkd' : handedIn kd = true) (hmo : handedIn mo = true) : Tel w 156 14 60 [.ref t] news (fun r n => ∃ D D2, r = .ref D ∧ n = (D, tupObj [kd, mo, .ref D2]) :: (D2, tupObj items) :: news ∧ (D2 < D ∧ AllLt D news) ∧ ∀ p ∈ news, p.1 < D2) := by
  unfold Tel
  intro mean mg mb dp un gd cn cs fa0 ccd cl outer A₀ base h₀ L m s Q E B F X N T hkd hdp hun hret
  revert X; k_fill; intro X
  refine wpAny_call ?_
  k_dflt ktr_enter
  k_steps
  all_goals (exact hret _ _ _ _ (by k_asm) (by first | k_asm | exact news_sub (by assumption) (fun p hp => by first | exact hp | exact sub_drop2 p hp | exact sub_drop3 p hp | exact .tail _ hp | exact .tail _ (.tail _ hp) | exact .tail _ (.tail _ (.tail _ hp)) | exact .tail _ (.tail _ (.tail _ (.tail _ hp)))) | exact news_sub (by assumption) (updL_sub fun p hp => by first | exact hp | exact sub_drop2 p hp | exact sub_drop3 p hp | exact .tail _ hp | exact .tail _ (.tail _ hp) | exact .tail _ (.tail _ (.tail _ hp)) | exact .tail _ (.tail _ (.tail _ (.tail _ hp))))) ⟨_, _, rfl, rfl, by assumption, by assumption⟩)
section
local macro_rules | `(tactic| walk_at "call ref") => `(tactic| (k_here; k_dflt (show wpAny _ _ (call (Value.ref 107) _) _ _ _); k_dflt (refine' telR_use (C := want_bad) (ret := ?_)); intro e9 h' tk' g9 FX' UX' RX'; (try dsimp only)))
local macro_rules | `(tactic| walk_at "call ref") => `(tactic| (k_here; k_dflt (show wpAny _ _ (call (Value.ref 107) _) _ _ _); k_dflt (refine' tel_use (C := want_ok) (ret := ?_)); intro r9 n9 h' tk' F' N' hO; obtain ⟨e1, e2⟩ := hO; subst e1; subst e2; (try dsimp only)))
local macro_rules | `(tactic| walk_at "leaving ref") => `(tactic| (k_here; k_dflt (refine' leave_onX ?_); intro h' R' U'; (try dsimp only)))
set_option maxHeartbeats 1000000 in
theorem get_ok {w : World} {a : Int} {ta : Tok} {x : Value} {k1 k2 k3 k4 : Tok} {kd mo el : Value} {t d i : Addr} {items : List Value} {c : Nat} {news : List (Addr × Obj)} (ht : (t, instObj 159 d) ∈ news := by k_mem) (hd : (d, TDict w k1 k2 k3 k4 kd mo el i) ∈ news := by k_mem) (hi : (i, listOf items.toArray c) ∈ news := by k_mem) (hz : items.length ≤ 400 := by assumption) (h1 : 0 ≤ a := by omega) (h2 : a < items.length := by omega) (hx : items[a.toNat]? = some x) : Tel w 114 16 70 [.ref t, .int a ta] news (fun r n => r = x ∧ n = news) := by
  unfold Tel
  intro mean mg mb dp un gd cn cs fa0 ccd cl outer A₀ base h₀ L m s Q E B F X N T hkd hdp hun hret
  revert X; k_fill; intro X
  refine wpAny_call ?_
  k_dflt ktr_enter
  k_steps
  all_goals (exact hret _ _ _ _ (by k_asm) (by first | k_asm | exact news_sub (by assumption) (fun p hp => by first | exact hp | exact sub_drop2 p hp | exact sub_drop3 p hp | exact .tail _ hp | exact .tail _ (.tail _ hp) | exact .tail _ (.tail _ (.tail _ hp)) | exact .tail _ (.tail _ (.tail _ (.tail _ hp)))) | exact news_sub (by assumption) (updL_sub fun p hp => by first | exact hp | exact sub_drop2 p hp | exact sub_drop3 p hp | exact .tail _ hp | exact .tail _ (.tail _ hp) | exact .tail _ (.tail _ (.tail _ hp)) | exact .tail _ (.tail _ (.tail _ (.tail _ hp))))) ⟨rfl, rfl⟩)
set_option maxHeartbeats 1000000 in
theorem get_bad {w : World} {a : Int} {ta : Tok} {k1 k2 k3 k4 : Tok} {kd mo el : Value} {t d i : Addr} {items : List Value} {c : Nat} {news : List (Addr × Obj)} (ht : (t, instObj 159 d) ∈ news := by k_mem) (hd : (d, TDict w k1 k2 k3 k4 kd mo el i) ∈ news := by k_mem) (hi : (i, listOf items.toArray c) ∈ news := by k_mem) (hz : items.length ≤ 400 := by assumption) (h : ¬ (0 ≤ a ∧ a < items.length) := by omega) : TelR w 114 16 70 [.ref t, .int a ta] news 44 (.str "out of bounds table access" 254) := by
  unfold TelR
  intro mean mg mb dp un gd cn cs fa0 ccd cl outer A₀ base h₀ L m s Q E B F X N T hkd hdp hun hret
  revert X; k_fill; intro X
  refine wpAny_call ?_
  k_dflt ktr_enter
  k_steps
  all_goals (refine' hret _ _ _ _ ?ea ?eb ?ec; (case eb => k_asm); (case ea => k_asm); (case ec => first | k_asm | exact raisedX_sub (by assumption) (fun p hp => by first | exact hp | exact sub_drop2 p hp | exact sub_drop3 p hp | exact .tail _ hp | exact .tail _ (.tail _ hp) | exact .tail _ (.tail _ (.tail _ hp)) | exact .tail _ (.tail _ (.tail _ (.tail _ hp))))))
set_option maxHeartbeats 1000000 in
theorem put_ok {w : World} {a : Int} {ta : Tok} {v : Value} {k1 k2 k3 k4 : Tok} {kd mo el : Value} {t d i : Addr} {items : List Value} {c : Nat} {news : List (Addr × Obj)} (ht : (t, instObj 159 d) ∈ news := by k_mem) (hd : (d, TDict w k1 k2 k3 k4 kd mo el i) ∈ news := by k_mem) (hi : (i, listOf items.toArray c) ∈ news := by k_mem) (hz : items.length ≤ 400 := by assumption) (h1 : 0 ≤ a := by omega) (h2 : a < items.length := by omega) : Tel w 121 16 70 [.ref t, .int a ta, v] news (fun r n => r = .none ∧ ∃ c', n = updL i (listOf (items.set a.toNat v).toArray c') news) := by
  unfold Tel
  intro mean mg mb dp un gd cn cs fa0 ccd cl outer A₀ base h₀ L m s Q E B F X N T hkd hdp hun hret
  revert X; k_fill; intro X
  refine wpAny_call ?_
  k_dflt ktr_enter
  k_steps
  all_goals (exact hret _ _ _ _ (by k_asm) (by first | k_asm | exact news_sub (by assumption) (fun p hp => by first | exact hp | exact sub_drop2 p hp | exact sub_drop3 p hp | exact .tail _ hp | exact .tail _ (.tail _ hp) | exact .tail _ (.tail _ (.tail _ hp)) | exact .tail _ (.tail _ (.tail _ (.tail _ hp)))) | exact news_sub (by assumption) (updL_sub fun p hp => by first | exact hp | exact sub_drop2 p hp | exact sub_drop3 p hp | exact .tail _ hp | exact .tail _ (.tail _ hp) | exact .tail _ (.tail _ (.tail _ hp)) | exact .tail _ (.tail _ (.tail _ (.tail _ hp))))) ⟨rfl, _, rfl⟩)
set_option maxHeartbeats 1000000 in
theorem put_bad {w : World} {a : Int} {ta : Tok} {v : Value} {k1 k2 k3 k4 : Tok} {kd mo el : Value} {t d i : Addr} {items : List Value} {c : Nat} {news : List (Addr × Obj)} (ht : (t, instObj 159 d) ∈ news := by k_mem) (hd : (d, TDict w k1 k2 k3 k4 kd mo el i) ∈ news := by k_mem) (hi : (i, listOf items.toArray c) ∈ news := by k_mem) (hz : items.length ≤ 400 := by assumption) (h : ¬ (0 ≤ a ∧ a < items.length) := by omega) : TelR w 121 16 70 [.ref t, .int a ta, v] news 44 (.str "out of bounds table access" 254) := by
  unfold TelR
  intro mean mg mb dp un gd cn cs fa0 ccd cl outer A₀ base h₀ L m s Q E B F X N T hkd hdp hun hret
  revert X; k_fill; intro X
  refine wpAny_call ?_
  k_dflt ktr_enter
  k_steps
  all_goals (refine' hret _ _ _ _ ?ea ?eb ?ec; (case eb => k_asm); (case ea => k_asm); (case ec => first | k_asm | exact raisedX_sub (by assumption) (fun p hp => by first | exact hp | exact sub_drop2 p hp | exact sub_drop3 p hp | exact .tail _ hp | exact .tail _ (.tail _ hp) | exact .tail _ (.tail _ (.tail _ hp)) | exact .tail _ (.tail _ (.tail _ (.tail _ hp))))))
set_option maxHeartbeats 1000000 in
theorem fill_ok {w : World} {a b : Int} {ta tb : Tok} {v : Value} {k1 k2 k3 k4 : Tok} {kd mo el : Value} {t d i : Addr} {items : List Value} {c : Nat} {news : List (Addr × Obj)} (ht : (t, instObj 159 d) ∈ news := by k_mem) (hd : (d, TDict w k1 k2 k3 k4 kd mo el i) ∈ news := by k_mem) (hi : (i, listOf items.toArray c) ∈ news := by k_mem) (hz : items.length ≤ 400 := by assumption) (h0 : items.length ≤ 50 := by omega) (h1 : 0 ≤ a := by omega) (h2 : 0 ≤ b := by omega) (h3 : a + b ≤ items.length := by omega) :
    Tel w 135 16 70 [.ref t, .int a ta, v, .int b tb] news (fun r n => r = .none ∧ ∃ c', n = updL i (listOf (items.take a.toNat ++ List.replicate b.toNat v ++ items.drop (a + b).toNat).toArray c') news) := by
  unfold Tel
  intro mean mg mb dp un gd cn cs fa0 ccd cl outer A₀ base h₀ L m s Q E B F X N T hkd hdp hun hret
  revert X; k_fill; intro X
  refine wpAny_call ?_
  k_dflt ktr_enter
  k_steps
  all_goals (exact hret _ _ _ _ (by k_asm) (by first | k_asm | exact news_sub (by assumption) (fun p hp => by first | exact hp | exact sub_drop2 p hp | exact sub_drop3 p hp | exact .tail _ hp | exact .tail _ (.tail _ hp) | exact .tail _ (.tail _ (.tail _ hp)) | exact .tail _ (.tail _ (.tail _ (.tail _ hp)))) | exact news_sub (by assumption) (updL_sub fun p hp => by first | exact hp | exact sub_drop2 p hp | exact sub_drop3 p hp | exact .tail _ hp | exact .tail _ (.tail _ hp) | exact .tail _ (.tail _ (.tail _ hp)) | exact .tail _ (.tail _ (.tail _ (.tail _ hp))))) ⟨rfl, _, rfl⟩)
set_option maxHeartbeats 1000000 in
theorem fill_bad {w : World} {a b : Int} {ta tb : Tok} {v : Value} {k1 k2 k3 k4 : Tok} {kd mo el : Value} {t d i : Addr} {items : List Value} {c : Nat} {news : List (Addr × Obj)} (ht : (t, instObj 159 d) ∈ news := by k_mem) (hd : (d, TDict w k1 k2 k3 k4 kd mo el i) ∈ news := by k_mem) (hi : (i, listOf items.toArray c) ∈ news := by k_mem) (hz : items.length ≤ 400 := by assumption) (h : ¬ (0 ≤ a ∧ 0 ≤ b ∧ a + b ≤ items.length) := by omega) : TelR w 135 16 70 [.ref t, .int a ta, v, .int b tb] news 44 (.str "out of bounds table access" 254) := by
  unfold TelR
  intro mean mg mb dp un gd cn cs fa0 ccd cl outer A₀ base h₀ L m s Q E B F X N T hkd hdp hun hret
  revert X; k_fill; intro X
  refine wpAny_call ?_
  k_dflt ktr_enter
  k_steps
  all_goals (refine' hret _ _ _ _ ?ea ?eb ?ec; (case eb => k_asm); (case ea => k_asm); (case ec => first | k_asm | exact raisedX_sub (by assumption) (fun p hp => by first | exact hp | exact sub_drop2 p hp | exact sub_drop3 p hp | exact .tail _ hp | exact .tail _ (.tail _ hp) | exact .tail _ (.tail _ (.tail _ hp)) | exact .tail _ (.tail _ (.tail _ (.tail _ hp))))))
set_option maxHeartbeats 1000000 in
theorem copy_ok {w : World} {a e b : Int} {ta te tb : Tok} {k1 k2 k3 k4 : Tok} {kd mo el : Value} {t d i : Addr} {items : List Value} {c : Nat} {news : List (Addr × Obj)} (ht : (t, instObj 159 d) ∈ news := by k_mem) (hd : (d, TDict w k1 k2 k3 k4 kd mo el i) ∈ news := by k_mem) (hi : (i, listOf items.toArray c) ∈ news := by k_mem) (hz : items.length ≤ 400 := by assumption) {k1' k2' k3' k4' : Tok} {kd' mo' el' : Value} {t' d' i' : Addr} {items' : List Value} {c' : Nat} (ht' : (t', instObj 159 d') ∈ news := by k_mem) (hd' : (d', TDict w k1' k2' k3' k4' kd' mo' el' i') ∈ news := by k_mem) (hi' : (i', listOf items'.toArray c') ∈ news := by k_mem) (hz' : items'.length ≤ 400 := by assumption) (h1 : 0 ≤ a := by omega) (h2 : 0 ≤ b := by omega) (h3 : a + b ≤ items.length := by omega) (h4 : 0 ≤ e := by omega) (h5 : e + b ≤ items'.length := by omega) :
    Tel w 142 16 70 [.ref t, .int a ta, .ref t', .int e te, .int b tb] news (fun r n => r = .none ∧ ∃ c', n = updL i (listOf (items.take a.toNat ++ (items'.drop e.toNat).take ((e + b).toNat - e.toNat) ++ items.drop (a + b).toNat).toArray c') news) := by
  unfold Tel
  intro mean mg mb dp un gd cn cs fa0 ccd cl outer A₀ base h₀ L m s Q E B F X N T hkd hdp hun hret
  revert X; k_fill; intro X
  refine wpAny_call ?_
  k_dflt ktr_enter
  k_steps
  all_goals (exact hret _ _ _ _ (by k_asm) (by first | k_asm | exact news_sub (by assumption) (fun p hp => by first | exact hp | exact sub_drop2 p hp | exact sub_drop3 p hp | exact .tail _ hp | exact .tail _ (.tail _ hp) | exact .tail _ (.tail _ (.tail _ hp)) | exact .tail _ (.tail _ (.tail _ (.tail _ hp)))) | exact news_sub (by assumption) (updL_sub fun p hp => by first | exact hp | exact sub_drop2 p hp | exact sub_drop3 p hp | exact .tail _ hp | exact .tail _ (.tail _ hp) | exact .tail _ (.tail _ (.tail _ hp)) | exact .tail _ (.tail _ (.tail _ (.tail _ hp))))) ⟨rfl, _, rfl⟩)
set_option maxHeartbeats 1000000 in
theorem copy_bad1 {w : World} {a e b : Int} {ta te tb : Tok} {k1 k2 k3 k4 : Tok} {kd mo el : Value} {t d i : Addr} {items : List Value} {c : Nat} {news : List (Addr × Obj)} (ht : (t, instObj 159 d) ∈ news := by k_mem) (hd : (d, TDict w k1 k2 k3 k4 kd mo el i) ∈ news := by k_mem) (hi : (i, listOf items.toArray c) ∈ news := by k_mem) (hz : items.length ≤ 400 := by assumption) {k1' k2' k3' k4' : Tok} {kd' mo' el' : Value} {t' d' i' : Addr} {items' : List Value} {c' : Nat} (ht' : (t', instObj 159 d') ∈ news := by k_mem) (hd' : (d', TDict w k1' k2' k3' k4' kd' mo' el' i') ∈ news := by k_mem) (hi' : (i', listOf items'.toArray c') ∈ news := by k_mem) (hz' : items'.length ≤ 400 := by assumption) (h : ¬ (0 ≤ b ∧ 0 ≤ e ∧ e + b ≤ items'.length) := by omega) :
    TelR w 142 16 70 [.ref t, .int a ta, .ref t', .int e te, .int b tb] news 44 (.str "out of bounds table access" 254) := by
  unfold TelR
  intro mean mg mb dp un gd cn cs fa0 ccd cl outer A₀ base h₀ L m s Q E B F X N T hkd hdp hun hret
  revert X; k_fill; intro X
  refine wpAny_call ?_
  k_dflt ktr_enter
  k_steps
  all_goals (refine' hret _ _ _ _ ?ea ?eb ?ec; (case eb => k_asm); (case ea => k_asm); (case ec => first | k_asm | exact raisedX_sub (by assumption) (fun p hp => by first | exact hp | exact sub_drop2 p hp | exact sub_drop3 p hp | exact .tail _ hp | exact .tail _ (.tail _ hp) | exact .tail _ (.tail _ (.tail _ hp)) | exact .tail _ (.tail _ (.tail _ (.tail _ hp))))))
set_option maxHeartbeats 1000000 in
theorem copy_bad2 {w : World} {a e b : Int} {ta te tb : Tok} {k1 k2 k3 k4 : Tok} {kd mo el : Value} {t d i : Addr} {items : List Value} {c : Nat} {news : List (Addr × Obj)} (ht : (t, instObj 159 d) ∈ news := by k_mem) (hd : (d, TDict w k1 k2 k3 k4 kd mo el i) ∈ news := by k_mem) (hi : (i, listOf items.toArray c) ∈ news := by k_mem) (hz : items.length ≤ 400 := by assumption) {k1' k2' k3' k4' : Tok} {kd' mo' el' : Value} {t' d' i' : Addr} {items' : List Value} {c' : Nat} (ht' : (t', instObj 159 d') ∈ news := by k_mem) (hd' : (d', TDict w k1' k2' k3' k4' kd' mo' el' i') ∈ news := by k_mem) (hi' : (i', listOf items'.toArray c') ∈ news := by k_mem) (hz' : items'.length ≤ 400 := by assumption) (h0 : 0 ≤ b ∧ 0 ≤ e ∧ e + b ≤ items'.length := by omega) (h : ¬ (0 ≤ a ∧ a + b ≤ items.length) := by omega) :
    TelR w 142 16 70 [.ref t, .int a ta, .ref t', .int e te, .int b tb] news 44 (.str "out of bounds table access" 254) := by
  unfold TelR
  intro mean mg mb dp un gd cn cs fa0 ccd cl outer A₀ base h₀ L m s Q E B F X N T hkd hdp hun hret
  revert X; k_fill; intro X
  refine wpAny_call ?_
  k_dflt ktr_enter
  k_steps
  all_goals (refine' hret _ _ _ _ ?ea ?eb ?ec; (case eb => k_asm); (case ea => k_asm); (case ec => first | k_asm | exact raisedX_sub (by assumption) (fun p hp => by first | exact hp | exact sub_drop2 p hp | exact sub_drop3 p hp | exact .tail _ hp | exact .tail _ (.tail _ hp) | exact .tail _ (.tail _ (.tail _ hp)) | exact .tail _ (.tail _ (.tail _ (.tail _ hp))))))
end
end
theorem rs_j4_4 {M : Model} {A : Around} {E : Value → Shared → Prop} {env : Env} {s : Shared} {Q : Flow → Shared → Prop} (h : Q .next s) : wpAny M A (execs [] env) Q E s := by
  walk1
  exact h
section
def LimIs (mo : Value) (el lim : Int) : Prop := (mo = .none ∧ lim = el) ∨ ∃ m t, mo = .int m t ∧ lim = min el m
set_option maxHeartbeats 1000000 in
theorem grown_ok1 {w : World} {s b e : Int} {ts tb te : Tok} {news} (h1 : 0 ≤ b) (h2 : s + b ≤ e) : Tel w 72 12 50 [.int s ts, .int b tb, .none, .int e te] news (fun r n => (∃ x tk, r = .int x tk) ∧ n = news) := by
  unfold Tel
  intro mean mg mb dp un gd cn cs fa0 ccd cl outer A₀ base h₀ L m s Q E B F X N T hkd hdp hun hret
  revert X; k_fill; intro X
  refine wpAny_call ?_
  k_dflt ktr_enter
  k_steps
  all_goals first | omega | (exact hret _ _ _ _ (by k_asm) (by first | k_asm | exact news_sub (by assumption) (fun p hp => by first | exact hp | exact sub_drop2 p hp | exact sub_drop3 p hp | exact .tail _ hp | exact .tail _ (.tail _ hp) | exact .tail _ (.tail _ (.tail _ hp)) | exact .tail _ (.tail _ (.tail _ (.tail _ hp)))) | exact news_sub (by assumption) (updL_sub fun p hp => by first | exact hp | exact sub_drop2 p hp | exact sub_drop3 p hp | exact .tail _ hp | exact .tail _ (.tail _ hp) | exact .tail _ (.tail _ (.tail _ hp)) | exact .tail _ (.tail _ (.tail _ (.tail _ hp))))) ⟨⟨_, _, rfl⟩, rfl⟩)
set_option maxHeartbeats 1000000 in
theorem grown_ok2 {w : World} {s b m e : Int} {ts tb tm te : Tok} {news} (h1 : 0 ≤ b) (h2 : s + b ≤ e) (h3 : s + b ≤ m) : Tel w 72 12 50 [.int s ts, .int b tb, .int m tm, .int e te] news (fun r n => (∃ x tk, r = .int x tk) ∧ n = news) := by
  unfold Tel
  intro mean mg mb dp un gd cn cs fa0 ccd cl outer A₀ base h₀ L m s Q E B F X N T hkd hdp hun hret
  revert X; k_fill; intro X
  refine wpAny_call ?_
  k_dflt ktr_enter
  k_steps
  all_goals first | omega | (exact hret _ _ _ _ (by k_asm) (by first | k_asm | exact news_sub (by assumption) (fun p hp => by first | exact hp | exact sub_drop2 p hp | exact sub_drop3 p hp | exact .tail _ hp | exact .tail _ (.tail _ hp) | exact .tail _ (.tail _ (.tail _ hp)) | exact .tail _ (.tail _ (.tail _ (.tail _ hp)))) | exact news_sub (by assumption) (updL_sub fun p hp => by first | exact hp | exact sub_drop2 p hp | exact sub_drop3 p hp | exact .tail _ hp | exact .tail _ (.tail _ hp) | exact .tail _ (.tail _ (.tail _ hp)) | exact .tail _ (.tail _ (.tail _ (.tail _ hp))))) ⟨⟨_, _, rfl⟩, rfl⟩)
set_option maxHeartbeats 1000000 in
theorem grown_bad1 {w : World} {s b e : Int} {ts tb te : Tok} {news} (h : ¬ (0 ≤ b ∧ s + b ≤ e)) : Tel w 72 12 50 [.int s ts, .int b tb, .none, .int e te] news (fun r n => r = .none ∧ n = news) := by
  unfold Tel
  intro mean mg mb dp un gd cn cs fa0 ccd cl outer A₀ base h₀ L m s Q E B F X N T hkd hdp hun hret
  revert X; k_fill; intro X
  refine wpAny_call ?_
  k_dflt ktr_enter
  k_steps
  all_goals first | omega | (exact hret _ _ _ _ (by k_asm) (by first | k_asm | exact news_sub (by assumption) (fun p hp => by first | exact hp | exact sub_drop2 p hp | exact sub_drop3 p hp | exact .tail _ hp | exact .tail _ (.tail _ hp) | exact .tail _ (.tail _ (.tail _ hp)) | exact .tail _ (.tail _ (.tail _ (.tail _ hp)))) | exact news_sub (by assumption) (updL_sub fun p hp => by first | exact hp | exact sub_drop2 p hp | exact sub_drop3 p hp | exact .tail _ hp | exact .tail _ (.tail _ hp) | exact .tail _ (.tail _ (.tail _ hp)) | exact .tail _ (.tail _ (.tail _ (.tail _ hp))))) ⟨rfl, rfl⟩)
set_option maxHeartbeats 1000000 in
theorem grown_bad2 {w : World} {s b m e : Int} {ts tb tm te : Tok} {news} (h : ¬ (0 ≤ b ∧ s + b ≤ e ∧ s + b ≤ m)) : Tel w 72 12 50 [.int s ts, .int b tb, .int m tm, .int e te] news (fun r n => r = .none ∧ n = news) := by
  unfold Tel
  intro mean mg mb dp un gd cn cs fa0 ccd cl outer A₀ base h₀ L m s Q E B F X N T hkd hdp hun hret
  revert X; k_fill; intro X
  refine wpAny_call ?_
  k_dflt ktr_enter
  k_steps
  all_goals first | omega | (exact hret _ _ _ _ (by k_asm) (by first | k_asm | exact news_sub (by assumption) (fun p hp => by first | exact hp | exact sub_drop2 p hp | exact sub_drop3 p hp | exact .tail _ hp | exact .tail _ (.tail _ hp) | exact .tail _ (.tail _ (.tail _ hp)) | exact .tail _ (.tail _ (.tail _ (.tail _ hp)))) | exact news_sub (by assumption) (updL_sub fun p hp => by first | exact hp | exact sub_drop2 p hp | exact sub_drop3 p hp | exact .tail _ hp | exact .tail _ (.tail _ hp) | exact .tail _ (.tail _ (.tail _ hp)) | exact .tail _ (.tail _ (.tail _ (.tail _ hp))))) ⟨rfl, rfl⟩)
local macro_rules | `(tactic| walk_at "call ref") => `(tactic| (k_here; k_dflt (show wpAny _ _ (call (Value.ref 72) _) _ _ _); k_dflt (refine' tel_use (C := grown_bad2 ?h1) (ret := ?_); (case h1 => omega)); intro r9 n9 h' tk' F' N' hO; obtain ⟨e1, e2⟩ := hO; subst e1; subst e2; (try dsimp only)))
local macro_rules | `(tactic| walk_at "call ref") => `(tactic| (k_here; k_dflt (show wpAny _ _ (call (Value.ref 72) _) _ _ _); k_dflt (refine' tel_use (C := grown_bad1 ?h1) (ret := ?_); (case h1 => omega)); intro r9 n9 h' tk' F' N' hO; obtain ⟨e1, e2⟩ := hO; subst e1; subst e2; (try dsimp only)))
local macro_rules | `(tactic| walk_at "call ref") => `(tactic| (k_here; k_dflt (show wpAny _ _ (call (Value.ref 72) _) _ _ _); k_dflt (refine' tel_use (C := grown_ok2 ?h1 ?h2 ?h3) (ret := ?_); (case h1 => omega); (case h2 => omega); (case h3 => omega)); intro r9 n9 h' tk' F' N' hO; obtain ⟨⟨x9, t9, e1⟩, e2⟩ := hO; subst e1; subst e2; (try dsimp only)))
local macro_rules | `(tactic| walk_at "call ref") => `(tactic| (k_here; k_dflt (show wpAny _ _ (call (Value.ref 72) _) _ _ _); k_dflt (refine' tel_use (C := grown_ok1 ?h1 ?h2) (ret := ?_); (case h1 => omega); (case h2 => omega)); intro r9 n9 h' tk' F' N' hO; obtain ⟨⟨x9, t9, e1⟩, e2⟩ := hO; subst e1; subst e2; (try dsimp only)))
set_option maxHeartbeats 1000000 in
theorem grow_ok1 {w : World} {b e : Int} {tb te : Tok} {v : Value} {k1 k2 k3 k4 : Tok} {kd mo el : Value} {t d i : Addr} {items : List Value} {c : Nat} {news : List (Addr × Obj)} (ht : (t, instObj 159 d) ∈ news := by k_mem) (hd : (d, TDict w k1 k2 k3 k4 kd mo el i) ∈ news := by k_mem) (hi : (i, listOf items.toArray c) ∈ news := by k_mem) (hz : items.length ≤ 400 := by assumption) (he : el = .int e te) (hm : mo = .none) (h1 : 0 ≤ b := by omega) (h2 : items.length + b ≤ e := by omega) (h3 : e ≤ 100 := by omega) :
    Tel w 128 16 70 [.ref t, .int b tb, v] news (fun r n => (∃ tk, r = .int items.length tk) ∧ ∃ c', n = updL i (listOf (items ++ List.replicate b.toNat v).toArray c') news) := by
  subst he hm
  unfold Tel
  intro mean mg mb dp un gd cn cs fa0 ccd cl outer A₀ base h₀ L m s Q E B F X N T hkd hdp hun hret
  revert X; k_fill; intro X
  refine wpAny_call ?_
  k_dflt ktr_enter
  k_steps
  all_goals first | omega | (exact hret _ _ _ _ (by k_asm) (by first | k_asm | exact news_sub (by assumption) (fun p hp => by first | exact hp | exact sub_drop2 p hp | exact sub_drop3 p hp | exact .tail _ hp | exact .tail _ (.tail _ hp) | exact .tail _ (.tail _ (.tail _ hp)) | exact .tail _ (.tail _ (.tail _ (.tail _ hp)))) | exact news_sub (by assumption) (updL_sub fun p hp => by first | exact hp | exact sub_drop2 p hp | exact sub_drop3 p hp | exact .tail _ hp | exact .tail _ (.tail _ hp) | exact .tail _ (.tail _ (.tail _ hp)) | exact .tail _ (.tail _ (.tail _ (.tail _ hp))))) ⟨⟨_, rfl⟩, _, rfl⟩)
set_option maxHeartbeats 1000000 in
theorem grow_ok2 {w : World} {b e m : Int} {tb te tm : Tok} {v : Value} {k1 k2 k3 k4 : Tok} {kd mo el : Value} {t d i : Addr} {items : List Value} {c : Nat} {news : List (Addr × Obj)} (ht : (t, instObj 159 d) ∈ news := by k_mem) (hd : (d, TDict w k1 k2 k3 k4 kd mo el i) ∈ news := by k_mem) (hi : (i, listOf items.toArray c) ∈ news := by k_mem) (hz : items.length ≤ 400 := by assumption) (he : el = .int e te) (hm : mo = .int m tm) (h1 : 0 ≤ b := by omega) (h2 : items.length + b ≤ e := by omega) (h4 : items.length + b ≤ m := by omega) (h3 : e ≤ 100 := by omega) :
    Tel w 128 16 70 [.ref t, .int b tb, v] news (fun r n => (∃ tk, r = .int items.length tk) ∧ ∃ c', n = updL i (listOf (items ++ List.replicate b.toNat v).toArray c') news) := by
  subst he hm
  unfold Tel
  intro mean mg mb dp un gd cn cs fa0 ccd cl outer A₀ base h₀ L m s Q E B F X N T hkd hdp hun hret
  revert X; k_fill; intro X
  refine wpAny_call ?_
  k_dflt ktr_enter
  k_steps
  all_goals first | omega | (exact hret _ _ _ _ (by k_asm) (by first | k_asm | exact news_sub (by assumption) (fun p hp => by first | exact hp | exact sub_drop2 p hp | exact sub_drop3 p hp | exact .tail _ hp | exact .tail _ (.tail _ hp) | exact .tail _ (.tail _ (.tail _ hp)) | exact .tail _ (.tail _ (.tail _ (.tail _ hp)))) | exact news_sub (by assumption) (updL_sub fun p hp => by first | exact hp | exact sub_drop2 p hp | exact sub_drop3 p hp | exact .tail _ hp | exact .tail _ (.tail _ hp) | exact .tail _ (.tail _ (.tail _ hp)) | exact .tail _ (.tail _ (.tail _ (.tail _ hp))))) ⟨⟨_, rfl⟩, _, rfl⟩)
set_option maxHeartbeats 1000000 in
theorem grow_bad1 {w : World} {b e : Int} {tb te : Tok} {v : Value} {k1 k2 k3 k4 : Tok} {kd mo el : Value} {t d i : Addr} {items : List Value} {c : Nat} {news : List (Addr × Obj)} (ht : (t, instObj 159 d) ∈ news := by k_mem) (hd : (d, TDict w k1 k2 k3 k4 kd mo el i) ∈ news := by k_mem) (hi : (i, listOf items.toArray c) ∈ news := by k_mem) (hz : items.length ≤ 400 := by assumption) (he : el = .int e te) (hm : mo = .none) (h : ¬ (0 ≤ b ∧ items.length + b ≤ e) := by omega) :
    Tel w 128 16 70 [.ref t, .int b tb, v] news (fun r n => (∃ tk, r = .int 4294967295 tk) ∧ n = news) := by
  subst he hm
  unfold Tel
  intro mean mg mb dp un gd cn cs fa0 ccd cl outer A₀ base h₀ L m s Q E B F X N T hkd hdp hun hret
  revert X; k_fill; intro X
  refine wpAny_call ?_
  k_dflt ktr_enter
  k_steps
  all_goals first | omega | (exact hret _ _ _ _ (by k_asm) (by first | k_asm | exact news_sub (by assumption) (fun p hp => by first | exact hp | exact sub_drop2 p hp | exact sub_drop3 p hp | exact .tail _ hp | exact .tail _ (.tail _ hp) | exact .tail _ (.tail _ (.tail _ hp)) | exact .tail _ (.tail _ (.tail _ (.tail _ hp)))) | exact news_sub (by assumption) (updL_sub fun p hp => by first | exact hp | exact sub_drop2 p hp | exact sub_drop3 p hp | exact .tail _ hp | exact .tail _ (.tail _ hp) | exact .tail _ (.tail _ (.tail _ hp)) | exact .tail _ (.tail _ (.tail _ (.tail _ hp))))) ⟨⟨_, rfl⟩, rfl⟩)
set_option maxHeartbeats 1000000 in
theorem grow_bad2 {w : World} {b e m : Int} {tb te tm : Tok} {v : Value} {k1 k2 k3 k4 : Tok} {kd mo el : Value} {t d i : Addr} {items : List Value} {c : Nat} {news : List (Addr × Obj)} (ht : (t, instObj 159 d) ∈ news := by k_mem) (hd : (d, TDict w k1 k2 k3 k4 kd mo el i) ∈ news := by k_mem) (hi : (i, listOf items.toArray c) ∈ news := by k_mem) (hz : items.length ≤ 400 := by assumption) (he : el = .int e te) (hm : mo = .int m tm) (h : ¬ (0 ≤ b ∧ items.length + b ≤ e ∧ items.length + b ≤ m) := by omega) :
    Tel w 128 16 70 [.ref t, .int b tb, v] news (fun r n => (∃ tk, r = .int 4294967295 tk) ∧ n = news) := by
  subst he hm
  unfold Tel
  intro mean mg mb dp un gd cn cs fa0 ccd cl outer A₀ base h₀ L m s Q E B F X N T hkd hdp hun hret
  revert X; k_fill; intro X
  refine wpAny_call ?_
  k_dflt ktr_enter
  k_steps
  all_goals first | omega | (exact hret _ _ _ _ (by k_asm) (by first | k_asm | exact news_sub (by assumption) (fun p hp => by first | exact hp | exact sub_drop2 p hp | exact sub_drop3 p hp | exact .tail _ hp | exact .tail _ (.tail _ hp) | exact .tail _ (.tail _ (.tail _ hp)) | exact .tail _ (.tail _ (.tail _ (.tail _ hp)))) | exact news_sub (by assumption) (updL_sub fun p hp => by first | exact hp | exact sub_drop2 p hp | exact sub_drop3 p hp | exact .tail _ hp | exact .tail _ (.tail _ hp) | exact .tail _ (.tail _ (.tail _ hp)) | exact .tail _ (.tail _ (.tail _ (.tail _ hp))))) ⟨⟨_, rfl⟩, rfl⟩)
end
theorem rs_j5_5 {M : Model} {A : Around} {E : Value → Shared → Prop} {env : Env} {s : Shared} {Q : Flow → Shared → Prop} (h : Q .next s) : wpAny M A (execs [] env) Q E s := by
  walk1
  exact h
section
section
local macro_rules | `(tactic| walk_at "call ref") => `(tactic| (k_here; k_dflt (show wpAny _ _ (call (Value.ref 107) _) _ _ _); k_dflt (refine' telR_use (C := want_bad) (ret := ?_)); intro e9 h' tk' g9 FX' UX' RX'; (try dsimp only)))
local macro_rules | `(tactic| walk_at "call ref") => `(tactic| (k_here; k_dflt (show wpAny _ _ (call (Value.ref 107) _) _ _ _); k_dflt (refine' tel_use (C := want_ok) (ret := ?_)); intro r9 n9 h' tk' F' N' hO; obtain ⟨e1, e2⟩ := hO; subst e1; subst e2; (try dsimp only)))
local macro_rules | `(tactic| walk_at "leaving ref") => `(tactic| (k_here; k_dflt (refine' leave_onX ?_); intro h' R' U'; (try dsimp only)))
local macro_rules | `(tactic| walk_at "call ref") => `(tactic| (k_here; k_dflt (show wpAny _ _ (call (Value.ref 65) _) _ _ _); k_dflt (refine' telR_use (C := want_within_bad _ _ _ _ _ _ _ _ _ ?hb) (ret := ?_); (case hb => (simp only [List.length_nil]; omega))); intro e9 h' tk' g9 FX' UX' RX'; (try dsimp only)))
local macro_rules | `(tactic| walk_at "call ref") => `(tactic| (k_here; k_dflt (show wpAny _ _ (call (Value.ref 65) _) _ _ _); k_dflt (refine' telR_use (C := want_within_bad _ _ _ _ _ _ _ _ _ ?hb) (ret := ?_); (case hb => omega)); intro e9 h' tk' g9 FX' UX' RX'; (try dsimp only)))
local macro_rules | `(tactic| walk_at "call ref") => `(tactic| (k_here; k_dflt (show wpAny _ _ (call (Value.ref 65) _) _ _ _); k_dflt (refine' tel_use (C := want_within_ok _ _ _ _ _ _ _ _ _ ?h1 ?h2 ?h3) (ret := ?_); (case h1 => omega); (case h2 => omega); (case h3 => (simp only [List.length_nil]; omega))); intro r9 n9 h' tk' F' N' hO; obtain ⟨e1, e2⟩ := hO; subst e1; subst e2; (try dsimp only)))
local macro_rules | `(tactic| walk_at "call ref") => `(tactic| (k_here; k_dflt (show wpAny _ _ (call (Value.ref 65) _) _ _ _); k_dflt (refine' tel_use (C := want_within_ok _ _ _ _ _ _ _ _ _ ?h1 ?h2 ?h3) (ret := ?_); (case h1 => omega); (case h2 => omega); (case h3 => omega)); intro r9 n9 h' tk' F' N' hO; obtain ⟨e1, e2⟩ := hO; subst e1; subst e2; (try dsimp only)))
set_option maxHeartbeats 1000000 in
theorem init_ok {w : World} {a e b : Int} {ta te tb : Tok} {sg : Addr} {src : List Value} {cs : Nat} {k1 k2 k3 k4 : Tok} {kd mo el : Value} {t d i : Addr} {items : List Value} {c : Nat} {news : List (Addr × Obj)} (ht : (t, instObj 159 d) ∈ news := by k_mem) (hd : (d, TDict w k1 k2 k3 k4 kd mo el i) ∈ news := by k_mem) (hi : (i, listOf items.toArray c) ∈ news := by k_mem) (hz : items.length ≤ 400 := by assumption) (hs : (sg, listOf src.toArray cs) ∈ news) (hzs : src.length ≤ 400) (hne : i ≠ sg)
    (h1 : 0 ≤ a := by omega) (h2 : 0 ≤ b := by omega) (h3 : a + b ≤ items.length := by omega) (h4 : 0 ≤ e := by omega) (h5 : e + b ≤ src.length := by omega) :
    Tel w 149 16 70 [.ref t, .int a ta, .ref sg, .int e te, .int b tb] news (fun r n => r = .none ∧ ∃ c', n = updL i (listOf (items.take a.toNat ++ (src.drop e.toNat).take ((e + b).toNat - e.toNat) ++ items.drop (a + b).toNat).toArray c') news) := by
  unfold Tel
  intro mean mg mb dp un gd cn cs fa0 ccd cl outer A₀ base h₀ L m s Q E B F X N T hkd hdp hun hret
  revert X; k_fill; intro X
  refine wpAny_call ?_
  k_dflt ktr_enter
  k_steps
  all_goals first | (exact hret _ _ _ _ (by k_asm) (by first | k_asm | exact news_sub (by assumption) (fun p hp => by first | exact hp | exact sub_drop2 p hp | exact sub_drop3 p hp | exact .tail _ hp | exact .tail _ (.tail _ hp) | exact .tail _ (.tail _ (.tail _ hp)) | exact .tail _ (.tail _ (.tail _ (.tail _ hp)))) | exact news_sub (by assumption) (updL_sub fun p hp => by first | exact hp | exact sub_drop2 p hp | exact sub_drop3 p hp | exact .tail _ hp | exact .tail _ (.tail _ hp) | exact .tail _ (.tail _ (.tail _ hp)) | exact .tail _ (.tail _ (.tail _ (.tail _ hp))))) ⟨rfl, _, rfl⟩)
set_option maxHeartbeats 1000000 in
theorem init_bad1 {w : World} {a e b : Int} {ta te tb : Tok} {sg : Addr} {src : List Value} {cs : Nat} {k1 k2 k3 k4 : Tok} {kd mo el : Value} {t d i : Addr} {items : List Value} {c : Nat} {news : List (Addr × Obj)} (ht : (t, instObj 159 d) ∈ news := by k_mem) (hd : (d, TDict w k1 k2 k3 k4 kd mo el i) ∈ news := by k_mem) (hi : (i, listOf items.toArray c) ∈ news := by k_mem) (hz : items.length ≤ 400 := by assumption) (hs : (sg, listOf src.toArray cs) ∈ news) (hzs : src.length ≤ 400)
    (h : ¬ (0 ≤ b ∧ 0 ≤ e ∧ e + b ≤ src.length) := by omega) :
    TelR w 149 16 70 [.ref t, .int a ta, .ref sg, .int e te, .int b tb] news 44 (.str "out of bounds table access" 254) := by
  unfold TelR
  intro mean mg mb dp un gd cn cs fa0 ccd cl outer A₀ base h₀ L m s Q E B F X N T hkd hdp hun hret
  revert X; k_fill; intro X
  refine wpAny_call ?_
  k_dflt ktr_enter
  k_steps
  all_goals first | (refine' hret _ _ _ _ ?ea ?eb ?ec; (case eb => k_asm); (case ea => k_asm); (case ec => first | k_asm | exact raisedX_sub (by assumption) (fun p hp => by first | exact hp | exact sub_drop2 p hp | exact sub_drop3 p hp | exact .tail _ hp | exact .tail _ (.tail _ hp) | exact .tail _ (.tail _ (.tail _ hp)) | exact .tail _ (.tail _ (.tail _ (.tail _ hp))))))
set_option maxHeartbeats 1000000 in
theorem init_bad2 {w : World} {a e b : Int} {ta te tb : Tok} {sg : Addr} {src : List Value} {cs : Nat} {k1 k2 k3 k4 : Tok} {kd mo el : Value} {t d i : Addr} {items : List Value} {c : Nat} {news : List (Addr × Obj)} (ht : (t, instObj 159 d) ∈ news := by k_mem) (hd : (d, TDict w k1 k2 k3 k4 kd mo el i) ∈ news := by k_mem) (hi : (i, listOf items.toArray c) ∈ news := by k_mem) (hz : items.length ≤ 400 := by assumption) (hs : (sg, listOf src.toArray cs) ∈ news) (hzs : src.length ≤ 400)
    (h0 : 0 ≤ b ∧ 0 ≤ e ∧ e + b ≤ src.length := by omega) (h : ¬ (0 ≤ a ∧ a + b ≤ items.length) := by omega) :
    TelR w 149 16 70 [.ref t, .int a ta, .ref sg, .int e te, .int b tb] news 44 (.str "out of bounds table access" 254) := by
  unfold TelR
  intro mean mg mb dp un gd cn cs fa0 ccd cl outer A₀ base h₀ L m s Q E B F X N T hkd hdp hun hret
  revert X; k_fill; intro X
  refine wpAny_call ?_
  k_dflt ktr_enter
  k_steps
  all_goals first | (refine' hret _ _ _ _ ?ea ?eb ?ec; (case eb => k_asm); (case ea => k_asm); (case ec => first | k_asm | exact raisedX_sub (by assumption) (fun p hp => by first | exact hp | exact sub_drop2 p hp | exact sub_drop3 p hp | exact .tail _ hp | exact .tail _ (.tail _ hp) | exact .tail _ (.tail _ (.tail _ hp)) | exact .tail _ (.tail _ (.tail _ (.tail _ hp))))))
set_option maxHeartbeats 1000000 in
theorem init_none_bad1 {w : World} {a e b : Int} {ta te tb : Tok} {k1 k2 k3 k4 : Tok} {kd mo el : Value} {t d i : Addr} {items : List Value} {c : Nat} {news : List (Addr × Obj)} (ht : (t, instObj 159 d) ∈ news := by k_mem) (hd : (d, TDict w k1 k2 k3 k4 kd mo el i) ∈ news := by k_mem) (hi : (i, listOf items.toArray c) ∈ news := by k_mem) (hz : items.length ≤ 400 := by assumption)
    (h : ¬ (0 ≤ b ∧ 0 ≤ e ∧ e + b ≤ 0) := by omega) :
    TelR w 149 16 70 [.ref t, .int a ta, .none, .int e te, .int b tb] news 44 (.str "out of bounds table access" 254) := by
  unfold TelR
  intro mean mg mb dp un gd cn cs fa0 ccd cl outer A₀ base h₀ L m s Q E B F X N T hkd hdp hun hret
  revert X; k_fill; intro X
  refine wpAny_call ?_
  k_dflt ktr_enter
  k_steps
  all_goals first | (refine' hret _ _ _ _ ?ea ?eb ?ec; (case eb => k_asm); (case ea => k_asm); (case ec => first | k_asm | exact raisedX_sub (by assumption) (fun p hp => by first | exact hp | exact sub_drop2 p hp | exact sub_drop3 p hp | exact .tail _ hp | exact .tail _ (.tail _ hp) | exact .tail _ (.tail _ (.tail _ hp)) | exact .tail _ (.tail _ (.tail _ (.tail _ hp))))))
set_option maxHeartbeats 1000000 in
theorem init_none_bad2 {w : World} {a e b : Int} {ta te tb : Tok} {k1 k2 k3 k4 : Tok} {kd mo el : Value} {t d i : Addr} {items : List Value} {c : Nat} {news : List (Addr × Obj)} (ht : (t, instObj 159 d) ∈ news := by k_mem) (hd : (d, TDict w k1 k2 k3 k4 kd mo el i) ∈ news := by k_mem) (hi : (i, listOf items.toArray c) ∈ news := by k_mem) (hz : items.length ≤ 400 := by assumption)
    (h0 : 0 ≤ b ∧ 0 ≤ e ∧ e + b ≤ 0 := by omega) (h : ¬ (0 ≤ a ∧ a + b ≤ items.length) := by omega) :
    TelR w 149 16 70 [.ref t, .int a ta, .none, .int e te, .int b tb] news 44 (.str "out of bounds table access" 254) := by
  unfold TelR
  intro mean mg mb dp un gd cn cs fa0 ccd cl outer A₀ base h₀ L m s Q E B F X N T hkd hdp hun hret
  revert X; k_fill; intro X
  refine wpAny_call ?_
  k_dflt ktr_enter
  k_steps
  all_goals first | (refine' hret _ _ _ _ ?ea ?eb ?ec; (case eb => k_asm); (case ea => k_asm); (case ec => first | k_asm | exact raisedX_sub (by assumption) (fun p hp => by first | exact hp | exact sub_drop2 p hp | exact sub_drop3 p hp | exact .tail _ hp | exact .tail _ (.tail _ hp) | exact .tail _ (.tail _ (.tail _ hp)) | exact .tail _ (.tail _ (.tail _ (.tail _ hp))))))
local macro_rules | `(tactic| walk_at "subscriptTail Name Slice ref ref") => `(tactic| (k_here; k_dflt (refine' lst_slice (its := []) ?_); intro D' h' F' N' l1; (have l9 := l1); (try k_lt l9); (try dsimp only)))
set_option maxHeartbeats 1000000 in
theorem init_none_ok {w : World} {a e b : Int} {ta te tb : Tok} {k1 k2 k3 k4 : Tok} {kd mo el : Value} {t d i : Addr} {items : List Value} {c : Nat} {news : List (Addr × Obj)} (ht : (t, instObj 159 d) ∈ news := by k_mem) (hd : (d, TDict w k1 k2 k3 k4 kd mo el i) ∈ news := by k_mem) (hi : (i, listOf items.toArray c) ∈ news := by k_mem) (hz : items.length ≤ 400 := by assumption)
    (h1 : 0 ≤ a := by omega) (h2 : 0 ≤ b := by omega) (h3 : a + b ≤ items.length := by omega) (h4 : 0 ≤ e := by omega) (h5 : e + b ≤ 0 := by omega) :
    Tel w 149 16 70 [.ref t, .int a ta, .none, .int e te, .int b tb] news (fun r n => r = .none ∧ ∃ c', n = updL i (listOf (items.take a.toNat ++ (([] : List Value).drop e.toNat).take ((e + b).toNat - e.toNat) ++ items.drop (a + b).toNat).toArray c') news) := by
  unfold Tel
  intro mean mg mb dp un gd cn cs fa0 ccd cl outer A₀ base h₀ L m s Q E B F X N T hkd hdp hun hret
  revert X; k_fill; intro X
  refine wpAny_call ?_
  k_dflt ktr_enter
  k_steps
  all_goals first | (exact hret _ _ _ _ (by k_asm) (by first | k_asm | exact news_sub (by assumption) (fun p hp => by first | exact hp | exact sub_drop2 p hp | exact sub_drop3 p hp | exact .tail _ hp | exact .tail _ (.tail _ hp) | exact .tail _ (.tail _ (.tail _ hp)) | exact .tail _ (.tail _ (.tail _ (.tail _ hp)))) | exact news_sub (by assumption) (updL_sub fun p hp => by first | exact hp | exact sub_drop2 p hp | exact sub_drop3 p hp | exact .tail _ hp | exact .tail _ (.tail _ hp) | exact .tail _ (.tail _ (.tail _ hp)) | exact .tail _ (.tail _ (.tail _ (.tail _ hp))))) ⟨rfl, _, rfl⟩)
end
end
theorem rs_j6_6 {M : Model} {A : Around} {E : Value → Shared → Prop} {env : Env} {s : Shared} {Q : Flow → Shared → Prop} (h : Q .next s) : wpAny M A (execs [] env) Q E s := by
  walk1
  exact h
section
theorem ne_all {news : List (Addr × Obj)} {D : Addr} (h : ∀ p ∈ news, p.1 < D) : ∀ p ∈ news, p.1 ≠ D := fun p hp => Nat.ne_of_lt (h p hp)
local macro_rules | `(tactic| k_all) => `(tactic| exact ne_all (by assumption))
abbrev SDict (w : World) (k1 k2 k3 k4 k5 : Tok) (pg pgs el dp fu : Value) : Obj :=
  dictOf [⟨PyData.keyHash w.params "page", .str "page" k1, pg⟩, ⟨PyData.keyHash w.params "pages", .str "pages" k2, pgs⟩, ⟨PyData.keyHash w.params "elements", .str "elements" k3, el⟩, ⟨PyData.keyHash w.params "depth", .str "depth" k4, dp⟩, ⟨PyData.keyHash w.params "fuel", .str "fuel" k5, fu⟩] 5
set_option maxHeartbeats 1000000 in
theorem table_made {w : World} {l e : Int} {tl te : Tok} {kd mo : Value} {sz ds : Addr} {k1 k2 k3 k4 k5 : Tok} {pg pgs dp fu : Value} {news} (hs : (sz, instObj 181 ds) ∈ news) (hds : (ds, SDict w k1 k2 k3 k4 k5 pg pgs (.int e te) dp fu) ∈ news) (h0 : 0 ≤ l) (h1 : l ≤ e) (h2 : e ≤ 100) :
    Tel w 159 16 70 [kd, .int l tl, mo, .ref sz] news (fun r n => ∃ t d i k1 k2 k3 k4, r = .ref t ∧ n = (i, listOf (List.replicate l.toNat Value.none).toArray 0) :: (t, instObj 159 d) :: (d, TDict w k1 k2 k3 k4 kd mo (.int e te) i) :: news ∧ d < t ∧ (t < i ∧ d < i ∧ AllLt i news) ∧ ∀ p ∈ news, p.1 < d) := by
  unfold Tel
  intro mean mg mb dp un gd cn cs fa0 ccd cl outer A₀ base h₀ L m s Q E B F X N T hkd hdp hun hret
  revert X; k_fill; intro X
  k_dflt (refine' call_cls ?k1 ?k2 ?k3 ?k4 ?k5 ?k6 ?_; (case k1 => k_asm); (case k2 => k_asm); (case k3 => k_asm); (case k4 => k_is); (case k5 => k_is); (case k6 => k_is))
  intro x' d' h' F' N' l1 l2
  replace l2 := ltN l2
  k_dflt ktr_enter
  k_steps
  all_goals (exact hret _ _ _ _ (by k_asm) (by first | k_asm | exact news_sub (by assumption) (fun p hp => by first | exact hp | exact sub_drop2 p hp | exact sub_drop3 p hp | exact .tail _ hp | exact .tail _ (.tail _ hp) | exact .tail _ (.tail _ (.tail _ hp)) | exact .tail _ (.tail _ (.tail _ (.tail _ hp)))) | exact news_sub (by assumption) (updL_sub fun p hp => by first | exact hp | exact sub_drop2 p hp | exact sub_drop3 p hp | exact .tail _ hp | exact .tail _ (.tail _ hp) | exact .tail _ (.tail _ (.tail _ hp)) | exact .tail _ (.tail _ (.tail _ (.tail _ hp))))) ⟨_, _, _, _, _, _, _, rfl, rfl, l2, And.right (by assumption), l1⟩)
set_option maxHeartbeats 1000000 in
theorem within_tel {w : World} {a b : Int} {ta tb : Tok} {l : Addr} {items : List Value} {c : Nat} {news} (hi : (l, listOf items.toArray c) ∈ news) (hz : items.length ≤ 400) :
    Tel w 206 16 70 [.ref l, .int a ta, .int b tb] news (fun r n => r = .bool (decide (0 ≤ a ∧ 0 ≤ b ∧ a + b ≤ items.length)) ∧ n = news) := by
  unfold Tel
  intro mean mg mb dp un gd cn cs fa0 ccd cl outer A₀ base h₀ L m s Q E B F X N T hkd hdp hun hret
  revert X; k_fill; intro X
  refine wpAny_call ?_
  k_dflt ktr_enter
  k_steps
  all_goals (exact hret _ _ _ _ (by k_asm) (by first | k_asm | exact news_sub (by assumption) (fun p hp => by first | exact hp | exact sub_drop2 p hp | exact sub_drop3 p hp | exact .tail _ hp | exact .tail _ (.tail _ hp) | exact .tail _ (.tail _ (.tail _ hp)) | exact .tail _ (.tail _ (.tail _ (.tail _ hp)))) | exact news_sub (by assumption) (updL_sub fun p hp => by first | exact hp | exact sub_drop2 p hp | exact sub_drop3 p hp | exact .tail _ hp | exact .tail _ (.tail _ hp) | exact .tail _ (.tail _ (.tail _ hp)) | exact .tail _ (.tail _ (.tail _ (.tail _ hp))))) ⟨congrArg Value.bool (decide_eq_decide.mpr (by omega)), rfl⟩)
theorem tel_mono {w : World} {f : Addr} {dd uu : Nat} {args : List Value} {news : List (Addr × Obj)} {Out Out' : Value → List (Addr × Obj) → Prop} (C : Tel w f dd uu args news Out) (h : ∀ r n, Out r n → Out' r n) : Tel w f dd uu args news Out' := by
  unfold Tel at C ⊢
  intro mean mg mb dp un gd cn cs a ccd cl outer A₀ base h₀ L m s Q E B F X N T hkd hdp hun hret
  exact C mean mg mb dp un gd cn cs a ccd cl outer A₀ base h₀ L m s Q E B F X N T hkd hdp hun fun r n h' tk' F' N' o => hret r n h' tk' F' N' (h r n o)
theorem within_true {w : World} {a b : Int} {ta tb : Tok} {l : Addr} {items : List Value} {c : Nat} {news} (hi : (l, listOf items.toArray c) ∈ news := by k_mem) (hz : items.length ≤ 400 := by omega) (h : 0 ≤ a ∧ 0 ≤ b ∧ a + b ≤ items.length := by omega) :
    Tel w 206 16 70 [.ref l, .int a ta, .int b tb] news (fun r n => r = .bool true ∧ n = news) := tel_mono (within_tel hi hz) fun r n h' => ⟨h'.1.trans (by rw [decide_eq_true h]), h'.2⟩
theorem within_false {w : World} {a b : Int} {ta tb : Tok} {l : Addr} {items : List Value} {c : Nat} {news} (hi : (l, listOf items.toArray c) ∈ news := by k_mem) (hz : items.length ≤ 400 := by omega) (h : ¬ (0 ≤ a ∧ 0 ≤ b ∧ a + b ≤ items.length) := by omega) :
    Tel w 206 16 70 [.ref l, .int a ta, .int b tb] news (fun r n => r = .bool false ∧ n = news) := tel_mono (within_tel hi hz) fun r n h' => ⟨h'.1.trans (by rw [decide_eq_false h]), h'.2⟩
end
theorem rs_j7_7 {M : Model} {A : Around} {E : Value → Shared → Prop} {env : Env} {s : Shared} {Q : Flow → Shared → Prop} (h : Q .next s) : wpAny M A (execs [] env) Q E s := by
  walk1
  exact h
section
local macro_rules | `(tactic| k_all) => `(tactic| exact ne_all (by assumption))
set_option maxHeartbeats 1000000 in
theorem sizes_made {w : World} {e : Int} {te t1 t2 : Tok} {news} : Tel w 181 16 70 [.int 1 t1, .int 1 t2, .int e te] news (fun r n => ∃ s d k1 k2 k3 k4 k5 pg pgs dp fu, r = .ref s ∧ n = (s, instObj 181 d) :: (d, SDict w k1 k2 k3 k4 k5 pg pgs (.int e te) dp fu) :: news ∧ d < s ∧ ∀ p ∈ news, p.1 < d) := by
  unfold Tel
  intro mean mg mb dp un gd cn cs fa0 ccd cl outer A₀ base h₀ L m s Q E B F X N T hkd hdp hun hret
  revert X; k_fill; intro X
  k_dflt (refine' call_cls ?k1 ?k2 ?k3 ?k4 ?k5 ?k6 ?_; (case k1 => k_asm); (case k2 => k_asm); (case k3 => k_asm); (case k4 => k_is); (case k5 => k_is); (case k6 => k_is))
  intro x' d' h' F' N' l1 l2
  replace l2 := ltN l2
  k_dflt (refine' code_def ?k1 ?k2 ?k3 ?k4 ?k5 ?kA ?kF ?kK ?k6 ?k7 ?k8 ?k9 ?kB ?_ ?c2 ?c3 ?c4 ?c5; (case kA => exact rfl); (case kF => exact rfl); (case kK => assumption); (case k1 => k_asm); (case k2 => k_asm); (case k3 => k_asm); (case k4 => k_asm); (case k5 => k_asm); (case k6 => k_is); (case k7 => k_is); (case k8 => ktr_room); (case k9 => exact binds_K (by k_in) rfl (by k_is) rfl rfl rfl); (case c5 => decide); (case kB => exact locs rfl); (case c2 => exact rfl); (case c3 => exact rfl); (case c4 => exact rfl); k_whole; intro g' L' h' FG' F' N' B' X' T'; (try dsimp only); (try k_fold))
  k_steps
  all_goals (exact hret _ _ _ _ (by k_asm) (by first | k_asm | exact news_sub (by assumption) (fun p hp => by first | exact hp | exact sub_drop2 p hp | exact sub_drop3 p hp | exact .tail _ hp | exact .tail _ (.tail _ hp) | exact .tail _ (.tail _ (.tail _ hp)) | exact .tail _ (.tail _ (.tail _ (.tail _ hp)))) | exact news_sub (by assumption) (updL_sub fun p hp => by first | exact hp | exact sub_drop2 p hp | exact sub_drop3 p hp | exact .tail _ hp | exact .tail _ (.tail _ hp) | exact .tail _ (.tail _ (.tail _ hp)) | exact .tail _ (.tail _ (.tail _ (.tail _ hp))))) ⟨_, _, _, _, _, _, _, _, _, _, _, rfl, rfl, l2, l1⟩)
end
theorem rs_j8_8 {M : Model} {A : Around} {E : Value → Shared → Prop} {env : Env} {s : Shared} {Q : Flow → Shared → Prop} (h : Q .next s) : wpAny M A (execs [] env) Q E s := by
  walk1
  exact h
end
theorem rs_j9_9 {M : Model} {A : Around} {E : Value → Shared → Prop} {env : Env} {s : Shared} {Q : Flow → Shared → Prop} (h : Q .next s) : wpAny M A (execs [] env) Q E s := by
  walk1
  exact h
section
set_option maxHeartbeats 1000000 in
theorem digit_call {w : World} {k : Int} {tk0 : Tok} {l : Addr} {vs : List Value} {ns : List Int} {news : List (Addr × Obj)} {mean : ExcName → Option Value} {mg mb : Str → Option Value} {dp un : Nat} {gd : Option (List Code)} {cn : Str} {cs : Scope} {fa0 : Addr} {ccd : Value} {cl : List (Str × Addr)} {outer : List Env} {A₀ : Around} {base h₀ : Heap} {L : Addr} {m : Str → Option Value} {s : Shared} {Q E : Value → Shared → Prop}
    (hret : ∀ x h' tk' t, Fr h₀ L h' m → News h₀ L h' news → Q (.int x t) { s with heap := h', toks := tk' })
    (hk0 : 0 ≤ k := by omega) (hl : base.IsList l vs.toArray := by assumption) (hI : IntsAre vs ns := by assumption) (hz : ns.length ≤ 63 := by omega)
    (B : Below A₀ base outer h₀ := by k_asm) (F : Fr h₀ L s.heap m := by k_asm) (X : (Mine.hd.heap_39 w.params).In h₀ := by k_asm) (N : News h₀ L s.heap news := by k_asm) (T : Top Mine.hd.view_39 (looseW Mine.hd.view_39 []) mean mg mb h₀ := by k_asm) (hk : cs.kind = .function := by first | exact rfl | assumption) (hd : dp + 10 < recursionLimit := by ktr_room) (hu : un + 40 < cLine := by ktr_units) :
    wpAny (model PySem.Challenge.rw_nm0113_01.row.prog w) (ktrTop dp un gd cn cs L fa0 ccd cl outer) (call (.ref 192) [.ref l, .int k tk0]) Q E s := by
  revert X; k_fill; intro X
  have hlen := hI.length
  refine wpAny_call ?_
  k_dflt ktr_enter
  rename Below _ _ _ _ => B9
  k_lift B9
  k_steps
  all_goals exact hret _ _ _ _ (by k_asm) (by k_asm)
def SrcO (src : List Value) (ok : Addr → Prop) (news : List (Addr × Obj)) (r : Value) (n : List (Addr × Obj)) : Prop :=
  ∃ S c, r = .ref S ∧ (S, listOf src.toArray c) ∈ n ∧ ((n = news ∧ ok S) ∨ (n = (S, listOf src.toArray c) :: news ∧ ∀ p ∈ news, p.1 < S))
set_option maxHeartbeats 1000000 in
theorem source_4n {w : World} {to : Tok} {v r1 r2 : Value} {ok : Addr → Prop} {news} : Tel w 225 16 70 [.int 4 to, v, r1, r2, .none] news (SrcO [] ok news) := by
  unfold Tel
  intro mean mg mb dp un gd cn cs fa0 ccd cl outer A₀ base h₀ L m s Q E B F X N T hkd hdp hun hret
  revert X; k_fill; intro X
  refine wpAny_call ?_
  k_dflt ktr_enter
  k_steps
  all_goals (exact hret _ _ _ _ (by k_asm) (by first | k_asm | exact news_sub (by assumption) (fun p hp => by first | exact hp | exact sub_drop2 p hp | exact sub_drop3 p hp | exact .tail _ hp | exact .tail _ (.tail _ hp) | exact .tail _ (.tail _ (.tail _ hp)) | exact .tail _ (.tail _ (.tail _ (.tail _ hp)))) | exact news_sub (by assumption) (updL_sub fun p hp => by first | exact hp | exact sub_drop2 p hp | exact sub_drop3 p hp | exact .tail _ hp | exact .tail _ (.tail _ hp) | exact .tail _ (.tail _ (.tail _ hp)) | exact .tail _ (.tail _ (.tail _ (.tail _ hp))))) ⟨_, _, rfl, .head _, .inr ⟨rfl, by first | assumption | exact of_allLt (by assumption)⟩⟩)
set_option maxHeartbeats 1000000 in
theorem source_4 {w : World} {to : Tok} {v r1 r2 : Value} {sg : Addr} {c : Nat} {src : List Value} {ok : Addr → Prop} {news} (hs : (sg, listOf src.toArray c) ∈ news) (hok : ok sg) : Tel w 225 16 70 [.int 4 to, v, r1, r2, .ref sg] news (SrcO src ok news) := by
  unfold Tel
  intro mean mg mb dp un gd cn cs fa0 ccd cl outer A₀ base h₀ L m s Q E B F X N T hkd hdp hun hret
  revert X; k_fill; intro X
  refine wpAny_call ?_
  k_dflt ktr_enter
  k_steps
  all_goals (exact hret _ _ _ _ (by k_asm) (by first | k_asm | exact news_sub (by assumption) (fun p hp => by first | exact hp | exact sub_drop2 p hp | exact sub_drop3 p hp | exact .tail _ hp | exact .tail _ (.tail _ hp) | exact .tail _ (.tail _ (.tail _ hp)) | exact .tail _ (.tail _ (.tail _ (.tail _ hp)))) | exact news_sub (by assumption) (updL_sub fun p hp => by first | exact hp | exact sub_drop2 p hp | exact sub_drop3 p hp | exact .tail _ hp | exact .tail _ (.tail _ hp) | exact .tail _ (.tail _ (.tail _ hp)) | exact .tail _ (.tail _ (.tail _ (.tail _ hp))))) ⟨_, _, rfl, hs, .inl ⟨rfl, hok⟩⟩)
set_option maxHeartbeats 1000000 in
theorem source_6 {w : World} {to : Tok} {v r1 sv : Value} {sg : Addr} {c : Nat} {src : List Value} {ok : Addr → Prop} {news} (hs : (sg, listOf src.toArray c) ∈ news) (hok : ok sg) : Tel w 225 16 70 [.int 6 to, v, r1, .ref sg, sv] news (SrcO src ok news) := by
  unfold Tel
  intro mean mg mb dp un gd cn cs fa0 ccd cl outer A₀ base h₀ L m s Q E B F X N T hkd hdp hun hret
  revert X; k_fill; intro X
  refine wpAny_call ?_
  k_dflt ktr_enter
  k_steps
  all_goals (exact hret _ _ _ _ (by k_asm) (by first | k_asm | exact news_sub (by assumption) (fun p hp => by first | exact hp | exact sub_drop2 p hp | exact sub_drop3 p hp | exact .tail _ hp | exact .tail _ (.tail _ hp) | exact .tail _ (.tail _ (.tail _ hp)) | exact .tail _ (.tail _ (.tail _ (.tail _ hp)))) | exact news_sub (by assumption) (updL_sub fun p hp => by first | exact hp | exact sub_drop2 p hp | exact sub_drop3 p hp | exact .tail _ hp | exact .tail _ (.tail _ hp) | exact .tail _ (.tail _ (.tail _ hp)) | exact .tail _ (.tail _ (.tail _ (.tail _ hp))))) ⟨_, _, rfl, hs, .inl ⟨rfl, hok⟩⟩)
set_option maxHeartbeats 1000000 in
theorem source_0 {w : World} {to : Tok} {v r2 sv : Value} {sg : Addr} {c : Nat} {row : List Value} {ok : Addr → Prop} {news} (hz : row.length ≤ 100) (hs : (sg, listOf row.toArray c) ∈ news) :
    Tel w 225 16 70 [.int 0 to, v, .ref sg, r2, sv] news (SrcO (List.replicate row.length v) ok news) := by
  unfold Tel
  intro mean mg mb dp un gd cn cs fa0 ccd cl outer A₀ base h₀ L m s Q E B F X N T hkd hdp hun hret
  revert X; k_fill; intro X
  refine wpAny_call ?_
  k_dflt ktr_enter
  k_steps
  all_goals (exact hret _ _ _ _ (by k_asm) (by first | k_asm | exact news_sub (by assumption) (fun p hp => by first | exact hp | exact sub_drop2 p hp | exact sub_drop3 p hp | exact .tail _ hp | exact .tail _ (.tail _ hp) | exact .tail _ (.tail _ (.tail _ hp)) | exact .tail _ (.tail _ (.tail _ (.tail _ hp)))) | exact news_sub (by assumption) (updL_sub fun p hp => by first | exact hp | exact sub_drop2 p hp | exact sub_drop3 p hp | exact .tail _ hp | exact .tail _ (.tail _ hp) | exact .tail _ (.tail _ (.tail _ hp)) | exact .tail _ (.tail _ (.tail _ (.tail _ hp))))) ⟨_, _, rfl, .head _, .inr ⟨rfl, fun p hp => (by assumption : ∀ p ∈ _ :: _ :: _, p.1 < _) p (.tail _ (.tail _ hp))⟩⟩)
set_option maxHeartbeats 1000000 in
theorem source_2 {w : World} {to : Tok} {v r2 sv : Value} {sg : Addr} {c : Nat} {row : List Value} {ok : Addr → Prop} {news} (hz : row.length ≤ 100) (hs : (sg, listOf row.toArray c) ∈ news) :
    Tel w 225 16 70 [.int 2 to, v, .ref sg, r2, sv] news (SrcO (List.replicate row.length v) ok news) := by
  unfold Tel
  intro mean mg mb dp un gd cn cs fa0 ccd cl outer A₀ base h₀ L m s Q E B F X N T hkd hdp hun hret
  revert X; k_fill; intro X
  refine wpAny_call ?_
  k_dflt ktr_enter
  k_steps
  all_goals (exact hret _ _ _ _ (by k_asm) (by first | k_asm | exact news_sub (by assumption) (fun p hp => by first | exact hp | exact sub_drop2 p hp | exact sub_drop3 p hp | exact .tail _ hp | exact .tail _ (.tail _ hp) | exact .tail _ (.tail _ (.tail _ hp)) | exact .tail _ (.tail _ (.tail _ (.tail _ hp)))) | exact news_sub (by assumption) (updL_sub fun p hp => by first | exact hp | exact sub_drop2 p hp | exact sub_drop3 p hp | exact .tail _ hp | exact .tail _ (.tail _ hp) | exact .tail _ (.tail _ (.tail _ hp)) | exact .tail _ (.tail _ (.tail _ (.tail _ hp))))) ⟨_, _, rfl, .head _, .inr ⟨rfl, fun p hp => (by assumption : ∀ p ∈ _ :: _ :: _, p.1 < _) p (.tail _ (.tail _ hp))⟩⟩)
set_option maxHeartbeats 1000000 in
theorem source_1 {w : World} {to : Tok} {v r2 sv : Value} {sg : Addr} {c : Nat} {row : List Value} {ok : Addr → Prop} {news} (hs : (sg, listOf row.toArray c) ∈ news) (hok : ok sg) :
    Tel w 225 16 70 [.int 1 to, v, .ref sg, r2, sv] news (SrcO row ok news) := by
  unfold Tel
  intro mean mg mb dp un gd cn cs fa0 ccd cl outer A₀ base h₀ L m s Q E B F X N T hkd hdp hun hret
  revert X; k_fill; intro X
  refine wpAny_call ?_
  k_dflt ktr_enter
  k_steps
  all_goals (exact hret _ _ _ _ (by k_asm) (by first | k_asm | exact news_sub (by assumption) (fun p hp => by first | exact hp | exact sub_drop2 p hp | exact sub_drop3 p hp | exact .tail _ hp | exact .tail _ (.tail _ hp) | exact .tail _ (.tail _ (.tail _ hp)) | exact .tail _ (.tail _ (.tail _ (.tail _ hp)))) | exact news_sub (by assumption) (updL_sub fun p hp => by first | exact hp | exact sub_drop2 p hp | exact sub_drop3 p hp | exact .tail _ hp | exact .tail _ (.tail _ hp) | exact .tail _ (.tail _ (.tail _ hp)) | exact .tail _ (.tail _ (.tail _ (.tail _ hp))))) ⟨_, _, rfl, hs, .inl ⟨rfl, hok⟩⟩)
set_option maxHeartbeats 1000000 in
theorem source_3 {w : World} {to : Tok} {v r2 sv : Value} {sg : Addr} {c : Nat} {row : List Value} {ok : Addr → Prop} {news} (hs : (sg, listOf row.toArray c) ∈ news) (hok : ok sg) :
    Tel w 225 16 70 [.int 3 to, v, .ref sg, r2, sv] news (SrcO row ok news) := by
  unfold Tel
  intro mean mg mb dp un gd cn cs fa0 ccd cl outer A₀ base h₀ L m s Q E B F X N T hkd hdp hun hret
  revert X; k_fill; intro X
  refine wpAny_call ?_
  k_dflt ktr_enter
  k_steps
  all_goals (exact hret _ _ _ _ (by k_asm) (by first | k_asm | exact news_sub (by assumption) (fun p hp => by first | exact hp | exact sub_drop2 p hp | exact sub_drop3 p hp | exact .tail _ hp | exact .tail _ (.tail _ hp) | exact .tail _ (.tail _ (.tail _ hp)) | exact .tail _ (.tail _ (.tail _ (.tail _ hp)))) | exact news_sub (by assumption) (updL_sub fun p hp => by first | exact hp | exact sub_drop2 p hp | exact sub_drop3 p hp | exact .tail _ hp | exact .tail _ (.tail _ hp) | exact .tail _ (.tail _ (.tail _ hp)) | exact .tail _ (.tail _ (.tail _ (.tail _ hp))))) ⟨_, _, rfl, hs, .inl ⟨rfl, hok⟩⟩)
set_option maxHeartbeats 1000000 in
theorem source_5 {w : World} {to : Tok} {v r2 sv : Value} {sg : Addr} {c : Nat} {row : List Value} {ok : Addr → Prop} {news} (hs : (sg, listOf row.toArray c) ∈ news) (hok : ok sg) :
    Tel w 225 16 70 [.int 5 to, v, .ref sg, r2, sv] news (SrcO row ok news) := by
  unfold Tel
  intro mean mg mb dp un gd cn cs fa0 ccd cl outer A₀ base h₀ L m s Q E B F X N T hkd hdp hun hret
  revert X; k_fill; intro X
  refine wpAny_call ?_
  k_dflt ktr_enter
  k_steps
  all_goals (exact hret _ _ _ _ (by k_asm) (by first | k_asm | exact news_sub (by assumption) (fun p hp => by first | exact hp | exact sub_drop2 p hp | exact sub_drop3 p hp | exact .tail _ hp | exact .tail _ (.tail _ hp) | exact .tail _ (.tail _ (.tail _ hp)) | exact .tail _ (.tail _ (.tail _ (.tail _ hp)))) | exact news_sub (by assumption) (updL_sub fun p hp => by first | exact hp | exact sub_drop2 p hp | exact sub_drop3 p hp | exact .tail _ hp | exact .tail _ (.tail _ hp) | exact .tail _ (.tail _ (.tail _ hp)) | exact .tail _ (.tail _ (.tail _ (.tail _ hp))))) ⟨_, _, rfl, hs, .inl ⟨rfl, hok⟩⟩)
end
theorem rs_j10_10 {M : Model} {A : Around} {E : Value → Shared → Prop} {env : Env} {s : Shared} {Q : Flow → Shared → Prop} (h : Q .next s) : wpAny M A (execs [] env) Q E s := by
  walk1
  exact h
section
theorem eq_false {prog : Program} {w : World} {A : Around} {E : Value → Shared → Prop} {s : Shared} {Q : Value → Shared → Prop} {a b : Int} {t u : Tok} (hq : Q (.bool false) s) (h : a ≠ b := by assumption) : wpAny (model prog w) A (compareOp .Eq (.int a t) (.int b u)) Q E s :=
  eq_int (by rw [beq_eq_false_iff_ne.mpr h]; exact hq)
local macro_rules | `(tactic| walk_at "compareOp Eq int int") => `(tactic| refine' eq_false ?_)
def GMark (_ : Nat → Value) : Prop := True
section
variable {prog : Program} {w : World} {A : Around} {h₀ : Heap} {L : Addr} {m : Str → Option Value} {env : Env} {elt : Expr} {x : Str} {scope : Scope} {cl : List (Str × Addr)} {s : Shared} {Fin : List Value → List (Addr × Obj) → Prop} {news : List (Addr × Obj)}
theorem vals_range {n : Nat} {a : Int} {g : Nat → Value} (hg : GMark g)
    (turn : ∀ (i : Nat) t I oI C oC D m₂ ys h tk (E' : Value → Shared → Prop), i < n → LCg.NsObj oC m₂ → m₂ x = some (.int (a + (i : Int)) t) → Fr h₀ L h m → News h₀ L h ((I, oI) :: (C, oC) :: (D, LCg.lst ys) :: news) → LCg.Off3 I C D news → ((@Ne Nat I C) ∧ (@Ne Nat I D) ∧ (@Ne Nat C D)) →
      wpAny (model prog w) A (eval elt (compEnvC scope cl C env)) (LCg.CompEnd h₀ L m { s with heap := h, toks := tk } I oI C oC D (LCg.lst ys) (fun _ => True) (fun y news' => y = g i ∧ news' = news)) E' { s with heap := h, toks := tk })
    (fin : Fin ((List.range n).map g) news) : LCg.CompRest prog w A h₀ L m env elt x scope cl s (fun _ => True) (fun i v => ∃ t, v = .int (a + (i : Int)) t) Fin n 0 [] news := by
  have key : ∀ (j i : Nat), i + j = n → LCg.CompRest prog w A h₀ L m env elt x scope cl s (fun _ => True) (fun i v => ∃ t, v = .int (a + (i : Int)) t) Fin j i ((List.range i).map g) news := by
    intro j
    induction j with
    | zero =>
      intro i hi
      obtain rfl : i = n := by omega
      exact LCg.CompRest.zero fin
    | succ j ih =>
      intro i hi
      refine LCg.CompRest.succ ?_
      intro v I oI C oC D m₂ h tk E' hv hC hx F N off ne
      obtain ⟨t, rfl⟩ := hv
      refine wpAny_mono (turn i t I oI C oC D m₂ _ h tk E' (by omega) hC hx F N off ne) (fun y s₂ hq => ?_) fun _ _ e => e
      obtain ⟨h', tk', nw, e, F', N', off', hS, hy, hn⟩ := hq
      subst hn hy
      refine ⟨h', tk', nw, e, F', N', off', hS, ?_⟩
      have := ih (i + 1) (by omega)
      rwa [List.range_succ, List.map_append] at this
  exact key n 0 (by omega)
end
theorem sub_lt {news big : List (Addr × Obj)} {A : Addr} (h : ∀ p ∈ big, p.1 < A) (hs : ∀ p ∈ news, p ∈ big) : ∀ p ∈ news, p.1 ≠ A := fun p hp => Nat.ne_of_lt (h p (hs p hp))
theorem sub_ne {news big : List (Addr × Obj)} {A : Addr} (h : ∀ p ∈ big, p.1 ≠ A) (hs : ∀ p ∈ news, p ∈ big) : ∀ p ∈ news, p.1 ≠ A := fun p hp => h p (hs p hp)
theorem off1_all {D : Addr} : ∀ {news : List (Addr × Obj)}, LCg.Off1 D news → ∀ p ∈ news, p.1 ≠ D
  | [], _, p, hp => nomatch hp
  | q :: r, x, p, hp => by
    rcases List.mem_cons.mp hp with rfl | hp
    · exact x.1
    · exact off1_all x.2 p hp
def DueO (msg : Str) (pv : Value → Prop) (after : List Value) (ra : Addr) (news : List (Addr × Obj)) (r : Value) (n : List (Addr × Obj)) : Prop :=
  ∃ D D1 A k v c', r = .ref D ∧ (D, tupObj [.ref D1, .ref A]) ∈ n ∧ (D1, tupObj [.str msg k, v]) ∈ n ∧ pv v ∧ (A, listOf after.toArray c') ∈ n ∧ (∀ p ∈ news, p ∈ n) ∧ (A = ra ∨ ∀ p ∈ news, p.1 ≠ A)
local macro_rules | `(tactic| walk_at "call ref") => `(tactic| (k_here; k_dflt (show wpAny _ _ (call (Value.ref 206) _) _ _ _); k_dflt (refine' tel_use (C := within_false) (ret := ?_)); intro r9 n9 h' tk' F' N' hO; obtain ⟨e1, e2⟩ := hO; subst e1; subst e2; (try dsimp only)))
local macro_rules | `(tactic| walk_at "call ref") => `(tactic| (k_here; k_dflt (show wpAny _ _ (call (Value.ref 206) _) _ _ _); k_dflt (refine' tel_use (C := within_true) (ret := ?_)); intro r9 n9 h' tk' F' N' hO; obtain ⟨e1, e2⟩ := hO; subst e1; subst e2; (try dsimp only)))
set_option maxHeartbeats 1000000 in
theorem due_trap1 {w : World} {op a e b lim : Int} {to ta te tb tl : Tok} {v : Value} {ra sa : Addr} {row src : List Value} {c c2 : Nat} {news} (h5 : op ≠ 5) (hr : (ra, listOf row.toArray c) ∈ news) (hs : (sa, listOf src.toArray c2) ∈ news) (hz : row.length ≤ 100) (hz2 : src.length ≤ 100)
    (h : ¬ (0 ≤ a ∧ 0 ≤ b ∧ a + b ≤ row.length)) :
    Tel w 211 20 90 [.int op to, .ref ra, .int a ta, v, .ref sa, .int e te, .int b tb, .int lim tl] news (DueO "out of bounds table access" (· = .none) row ra news) := by
  unfold Tel
  intro mean mg mb dp un gd cn cs fa0 ccd cl outer A₀ base h₀ L m s Q E B F X N T hkd hdp hun hret
  revert X; k_fill; intro X
  refine wpAny_call ?_
  k_dflt (refine' code_defC ?k1 ?k2 ?k3 ?k4 ?k5 ?kA ?kF ?kK ?k6 ?k7 ?k8 ?k9 ?kB ?kD ?_ ?c2 ?c3 ?c4; (case kA => exact rfl); (case kF => exact rfl); (case kK => assumption); (case k1 => k_asm); (case k2 => k_asm); (case k3 => k_asm); (case k4 => k_asm); (case k5 => k_asm); (case k6 => k_is); (case k7 => k_is); (case k8 => ktr_room); (case k9 => exact BindsTo.of_eq rfl); (case kB => exact rfl); (case kD => decide +kernel); (case c2 => exact rfl); (case c3 => exact rfl); (case c4 => exact rfl))
  intro g' L' h' tk' cells' FG' F' N' Y' B' X' T' l1
  k_cells Y'
  (try simp only [List.cons_append, List.nil_append] at N')
  (try dsimp only)
  (try k_fold)
  k_steps
  all_goals (exact hret _ _ _ _ (by k_asm) (by k_asm) ⟨_, _, _, _, _, _, rfl, by k_mem, by k_mem, by (first | rfl | exact ⟨_, rfl⟩), by k_mem, by (intro p hp; repeat (first | exact hp | refine List.mem_cons_of_mem _ ?_)), by (first | exact .inl rfl | exact .inr (sub_ne (by assumption) (by intro p hp; repeat (first | exact hp | refine List.mem_cons_of_mem _ ?_))) | exact .inr (sub_lt (by assumption) (by intro p hp; repeat (first | exact hp | refine List.mem_cons_of_mem _ ?_))))⟩)
set_option maxHeartbeats 1000000 in
theorem due_trap2 {w : World} {op a e b lim : Int} {to ta te tb tl : Tok} {v : Value} {ra sa : Addr} {row src : List Value} {c c2 : Nat} {news} (h5 : op ≠ 5) (hr : (ra, listOf row.toArray c) ∈ news) (hs : (sa, listOf src.toArray c2) ∈ news) (hz : row.length ≤ 100) (hz2 : src.length ≤ 100)
    (h0 : 0 ≤ a ∧ 0 ≤ b ∧ a + b ≤ row.length) (h : ¬ (0 ≤ e ∧ e + b ≤ src.length)) :
    Tel w 211 20 90 [.int op to, .ref ra, .int a ta, v, .ref sa, .int e te, .int b tb, .int lim tl] news (DueO "out of bounds table access" (· = .none) row ra news) := by
  unfold Tel
  intro mean mg mb dp un gd cn cs fa0 ccd cl outer A₀ base h₀ L m s Q E B F X N T hkd hdp hun hret
  revert X; k_fill; intro X
  refine wpAny_call ?_
  k_dflt (refine' code_defC ?k1 ?k2 ?k3 ?k4 ?k5 ?kA ?kF ?kK ?k6 ?k7 ?k8 ?k9 ?kB ?kD ?_ ?c2 ?c3 ?c4; (case kA => exact rfl); (case kF => exact rfl); (case kK => assumption); (case k1 => k_asm); (case k2 => k_asm); (case k3 => k_asm); (case k4 => k_asm); (case k5 => k_asm); (case k6 => k_is); (case k7 => k_is); (case k8 => ktr_room); (case k9 => exact BindsTo.of_eq rfl); (case kB => exact rfl); (case kD => decide +kernel); (case c2 => exact rfl); (case c3 => exact rfl); (case c4 => exact rfl))
  intro g' L' h' tk' cells' FG' F' N' Y' B' X' T' l1
  k_cells Y'
  (try simp only [List.cons_append, List.nil_append] at N')
  (try dsimp only)
  (try k_fold)
  k_steps
  all_goals (exact hret _ _ _ _ (by k_asm) (by k_asm) ⟨_, _, _, _, _, _, rfl, by k_mem, by k_mem, by (first | rfl | exact ⟨_, rfl⟩), by k_mem, by (intro p hp; repeat (first | exact hp | refine List.mem_cons_of_mem _ ?_)), by (first | exact .inl rfl | exact .inr (sub_ne (by assumption) (by intro p hp; repeat (first | exact hp | refine List.mem_cons_of_mem _ ?_))) | exact .inr (sub_lt (by assumption) (by intro p hp; repeat (first | exact hp | refine List.mem_cons_of_mem _ ?_))))⟩)
set_option maxHeartbeats 1000000 in
theorem due_get {w : World} {a e b lim : Int} {to ta te tb tl : Tok} {v x : Value} {ra sa : Addr} {row src : List Value} {c c2 : Nat} {news} (hr : (ra, listOf row.toArray c) ∈ news) (hs : (sa, listOf src.toArray c2) ∈ news) (hz : row.length ≤ 100) (hz2 : src.length ≤ 100)
    (h0 : 0 ≤ a ∧ 0 ≤ b ∧ a + b ≤ row.length) (h : (0 ≤ e ∧ e + b ≤ src.length)) (hx : row[a.toNat]? = some x) :
    Tel w 211 20 90 [.int 3 to, .ref ra, .int a ta, v, .ref sa, .int e te, .int b tb, .int lim tl] news (DueO "" (· = x) row ra news) := by
  unfold Tel
  intro mean mg mb dp un gd cn cs fa0 ccd cl outer A₀ base h₀ L m s Q E B F X N T hkd hdp hun hret
  revert X; k_fill; intro X
  refine wpAny_call ?_
  k_dflt (refine' code_defC ?k1 ?k2 ?k3 ?k4 ?k5 ?kA ?kF ?kK ?k6 ?k7 ?k8 ?k9 ?kB ?kD ?_ ?c2 ?c3 ?c4; (case kA => exact rfl); (case kF => exact rfl); (case kK => assumption); (case k1 => k_asm); (case k2 => k_asm); (case k3 => k_asm); (case k4 => k_asm); (case k5 => k_asm); (case k6 => k_is); (case k7 => k_is); (case k8 => ktr_room); (case k9 => exact BindsTo.of_eq rfl); (case kB => exact rfl); (case kD => decide +kernel); (case c2 => exact rfl); (case c3 => exact rfl); (case c4 => exact rfl))
  intro g' L' h' tk' cells' FG' F' N' Y' B' X' T' l1
  k_cells Y'
  (try simp only [List.cons_append, List.nil_append] at N')
  (try dsimp only)
  (try k_fold)
  k_steps
  all_goals (exact hret _ _ _ _ (by k_asm) (by k_asm) ⟨_, _, _, _, _, _, rfl, by k_mem, by k_mem, by (first | rfl | exact ⟨_, rfl⟩), by k_mem, by (intro p hp; repeat (first | exact hp | refine List.mem_cons_of_mem _ ?_)), by (first | exact .inl rfl | exact .inr (sub_ne (by assumption) (by intro p hp; repeat (first | exact hp | refine List.mem_cons_of_mem _ ?_))) | exact .inr (sub_lt (by assumption) (by intro p hp; repeat (first | exact hp | refine List.mem_cons_of_mem _ ?_))))⟩)
set_option maxHeartbeats 1000000 in
theorem due_full1 {w : World} {a e b lim : Int} {to ta te tb tl : Tok} {v s0 : Value} {ra : Addr} {row : List Value} {c : Nat} {news} (hr : (ra, listOf row.toArray c) ∈ news) (hz : row.length ≤ 100)
    (h : b < 0) :
    Tel w 211 20 90 [.int 5 to, .ref ra, .int a ta, v, s0, .int e te, .int b tb, .int lim tl] news (DueO "" (fun x => ∃ t, x = .int 4294967295 t) row ra news) := by
  unfold Tel
  intro mean mg mb dp un gd cn cs fa0 ccd cl outer A₀ base h₀ L m s Q E B F X N T hkd hdp hun hret
  revert X; k_fill; intro X
  refine wpAny_call ?_
  k_dflt (refine' code_defC ?k1 ?k2 ?k3 ?k4 ?k5 ?kA ?kF ?kK ?k6 ?k7 ?k8 ?k9 ?kB ?kD ?_ ?c2 ?c3 ?c4; (case kA => exact rfl); (case kF => exact rfl); (case kK => assumption); (case k1 => k_asm); (case k2 => k_asm); (case k3 => k_asm); (case k4 => k_asm); (case k5 => k_asm); (case k6 => k_is); (case k7 => k_is); (case k8 => ktr_room); (case k9 => exact BindsTo.of_eq rfl); (case kB => exact rfl); (case kD => decide +kernel); (case c2 => exact rfl); (case c3 => exact rfl); (case c4 => exact rfl))
  intro g' L' h' tk' cells' FG' F' N' Y' B' X' T' l1
  k_cells Y'
  (try simp only [List.cons_append, List.nil_append] at N')
  (try dsimp only)
  (try k_fold)
  k_steps
  all_goals (exact hret _ _ _ _ (by k_asm) (by k_asm) ⟨_, _, _, _, _, _, rfl, by k_mem, by k_mem, by (first | rfl | exact ⟨_, rfl⟩), by k_mem, by (intro p hp; repeat (first | exact hp | refine List.mem_cons_of_mem _ ?_)), by (first | exact .inl rfl | exact .inr (sub_ne (by assumption) (by intro p hp; repeat (first | exact hp | refine List.mem_cons_of_mem _ ?_))) | exact .inr (sub_lt (by assumption) (by intro p hp; repeat (first | exact hp | refine List.mem_cons_of_mem _ ?_))))⟩)
set_option maxHeartbeats 1000000 in
theorem due_full2 {w : World} {a e b lim : Int} {to ta te tb tl : Tok} {v s0 : Value} {ra : Addr} {row : List Value} {c : Nat} {news} (hr : (ra, listOf row.toArray c) ∈ news) (hz : row.length ≤ 100)
    (h0 : 0 ≤ b) (h : lim < row.length + b) :
    Tel w 211 20 90 [.int 5 to, .ref ra, .int a ta, v, s0, .int e te, .int b tb, .int lim tl] news (DueO "" (fun x => ∃ t, x = .int 4294967295 t) row ra news) := by
  unfold Tel
  intro mean mg mb dp un gd cn cs fa0 ccd cl outer A₀ base h₀ L m s Q E B F X N T hkd hdp hun hret
  revert X; k_fill; intro X
  refine wpAny_call ?_
  k_dflt (refine' code_defC ?k1 ?k2 ?k3 ?k4 ?k5 ?kA ?kF ?kK ?k6 ?k7 ?k8 ?k9 ?kB ?kD ?_ ?c2 ?c3 ?c4; (case kA => exact rfl); (case kF => exact rfl); (case kK => assumption); (case k1 => k_asm); (case k2 => k_asm); (case k3 => k_asm); (case k4 => k_asm); (case k5 => k_asm); (case k6 => k_is); (case k7 => k_is); (case k8 => ktr_room); (case k9 => exact BindsTo.of_eq rfl); (case kB => exact rfl); (case kD => decide +kernel); (case c2 => exact rfl); (case c3 => exact rfl); (case c4 => exact rfl))
  intro g' L' h' tk' cells' FG' F' N' Y' B' X' T' l1
  k_cells Y'
  (try simp only [List.cons_append, List.nil_append] at N')
  (try dsimp only)
  (try k_fold)
  k_steps
  all_goals (exact hret _ _ _ _ (by k_asm) (by k_asm) ⟨_, _, _, _, _, _, rfl, by k_mem, by k_mem, by (first | rfl | exact ⟨_, rfl⟩), by k_mem, by (intro p hp; repeat (first | exact hp | refine List.mem_cons_of_mem _ ?_)), by (first | exact .inl rfl | exact .inr (sub_ne (by assumption) (by intro p hp; repeat (first | exact hp | refine List.mem_cons_of_mem _ ?_))) | exact .inr (sub_lt (by assumption) (by intro p hp; repeat (first | exact hp | refine List.mem_cons_of_mem _ ?_))))⟩)
end
theorem rs_j11_11 {M : Model} {A : Around} {E : Value → Shared → Prop} {env : Env} {s : Shared} {Q : Flow → Shared → Prop} (h : Q .next s) : wpAny M A (execs [] env) Q E s := by
  walk1
  exact h
section
local macro_rules | `(tactic| walk_at "compareOp Eq int int") => `(tactic| refine' eq_false ?_)
local macro_rules | `(tactic| walk_at "call ref") => `(tactic| (k_here; k_dflt (show wpAny _ _ (call (Value.ref 206) _) _ _ _); k_dflt (refine' tel_use (C := within_false) (ret := ?_)); intro r9 n9 h' tk' F' N' hO; obtain ⟨e1, e2⟩ := hO; subst e1; subst e2; (try dsimp only)))
local macro_rules | `(tactic| walk_at "call ref") => `(tactic| (k_here; k_dflt (show wpAny _ _ (call (Value.ref 206) _) _ _ _); k_dflt (refine' tel_use (C := within_true) (ret := ?_)); intro r9 n9 h' tk' F' N' hO; obtain ⟨e1, e2⟩ := hO; subst e1; subst e2; (try dsimp only)))
section
variable {prog : Program} {w : World} {A : Around} {E : Value → Shared → Prop} {s : Shared} {h₀ : Heap} {L l b : Addr} {m : Str → Option Value} {news : List (Addr × Obj)} {its its2 : List Value} {n n2 : Nat}
theorem lst_getD {k : Int} {u : Tok} {value slice : Expr} {Q : Value → Shared → Prop} (h : Q (its.getD k.toNat .none) s) (N : News h₀ L s.heap news := by k_asm) (hi : (l, listOf its.toArray n) ∈ news := by k_mem) (h0 : 0 ≤ k := by omega) (hf : k < its.length := by omega) (hz : its.length ≤ 100 := by omega)
    (hs : subscripted slice false (.ref l) (.int k u) = operate [.ref l, .int k u] (getItem (.ref l) (.int k u)) := by with_unfolding_all rfl) (hg : ∀ r, letTemporaryGo value (.ref l) r = pure () := by intro _; with_unfolding_all rfl) :
    wpAny (model prog w) A (subscriptTail value slice (.ref l) (.int k u)) Q E s := by
  refine kim_list N hi rfl rfl h0 (by omega) (x := its.getD k.toNat .none) ?_ h hs hg
  have hk : k.toNat < its.length := by omega
  rw [List.getD_eq_getElem?_getD, List.getElem?_eq_getElem hk]; rfl
end
section
local macro_rules | `(tactic| walk_at "eval ListComp") => `(tactic| (k_here; k_dflt (refine LCg.ListComp_U (F₀ := by k_asm) (by with_unfolding_all rfl) (by decide) (by rfl) (by decide) (by rfl) ?_)))
local macro_rules | `(tactic| walk_at "CompSrc") => `(tactic| (k_here; k_dflt (refine LCg.CompSrc.range (by rfl) (by k_asm) (by k_asm) (by assumption) (small_one (by omega) (by omega) (by omega) (by omega)) (rangeSize_nat _ _) (by rw [PySem.sizeLine_eq]; omega) ?_; intro g'; (refine' vals_range ?gm (fun i' t' I' oI' C' oC' D' m' ys' h' tk' E' hlt' hC' hx' F' N' off' ne' => ?_) ?_); (case gm => assumption))))
local macro_rules | `(tactic| walk_at "FinE") => `(tactic| (unfold LCg.FinE; intro D' h' tk' F' N' o1'; (have o9 := off1_all o1'); (try simp only [List.nil_append, List.cons_append] at N'); (try dsimp only)))
local macro_rules | `(tactic| walk_at "CompEnd") => `(tactic| refine LCg.CompEnd.intro (by k_asm) (by k_asm) _ (fun _ hp => hp) (by assumption) True.intro ⟨?_, rfl⟩)
set_option maxHeartbeats 1000000 in
theorem due_grow {w : World} {a e b lim : Int} {to ta te tb tl : Tok} {v s0 : Value} {ra : Addr} {row : List Value} {c : Nat} {news} (hr : (ra, listOf row.toArray c) ∈ news) (hz : row.length ≤ 100)
    (h0 : 0 ≤ b) (h1 : row.length + b ≤ lim) (h2 : lim ≤ 100) :
    Tel w 211 20 90 [.int 5 to, .ref ra, .int a ta, v, s0, .int e te, .int b tb, .int lim tl] news (DueO "" (fun x => ∃ t, x = .int row.length t) (row ++ (List.range (b - 0).toNat).map (fun _ => v)) ra news) := by
  unfold Tel
  intro mean mg mb dp un gd cn cs fa0 ccd cl outer A₀ base h₀ L m s Q E B F X N T hkd hdp hun hret
  revert X; k_fill; intro X
  refine wpAny_call ?_
  k_dflt (refine' code_defC ?k1 ?k2 ?k3 ?k4 ?k5 ?kA ?kF ?kK ?k6 ?k7 ?k8 ?k9 ?kB ?kD ?_ ?c2 ?c3 ?c4; (case kA => exact rfl); (case kF => exact rfl); (case kK => assumption); (case k1 => k_asm); (case k2 => k_asm); (case k3 => k_asm); (case k4 => k_asm); (case k5 => k_asm); (case k6 => k_is); (case k7 => k_is); (case k8 => ktr_room); (case k9 => exact BindsTo.of_eq rfl); (case kB => exact rfl); (case kD => decide +kernel); (case c2 => exact rfl); (case c3 => exact rfl); (case c4 => exact rfl))
  intro g' L' h' tk' cells' FG' F' N' Y' B' X' T' l1
  k_cells Y'
  (try simp only [List.cons_append, List.nil_append] at N')
  (try dsimp only)
  (try k_fold)
  have hg9 : GMark (fun _ => v) := trivial
  k_steps
  all_goals first | rfl | (exact hret _ _ _ _ (by k_asm) (by k_asm) ⟨_, _, _, _, _, _, rfl, by k_mem, by k_mem, by (first | rfl | exact ⟨_, rfl⟩), by k_mem, by (intro p hp; repeat (first | exact hp | refine List.mem_cons_of_mem _ ?_)), by (first | exact .inl rfl | exact .inr (sub_ne (by assumption) (by intro p hp; repeat (first | exact hp | refine List.mem_cons_of_mem _ ?_))) | exact .inr (sub_lt (by assumption) (by intro p hp; repeat (first | exact hp | refine List.mem_cons_of_mem _ ?_))))⟩)
end
section
local macro_rules | `(tactic| walk_at "subscriptTail") => `(tactic| (k_here; (with_reducible show wpAny _ _ (subscriptTail _ _ (Value.ref _) (Value.int _ _)) _ _ _); k_dflt (refine' lst_getD ?_); (try dsimp only)))
local macro_rules | `(tactic| walk_at "eval ListComp") => `(tactic| (k_here; k_dflt (refine LCg.ListComp_U (F₀ := by k_asm) (by with_unfolding_all rfl) (by decide) (by rfl) (by decide) (by rfl) ?_)))
local macro_rules | `(tactic| walk_at "CompSrc") => `(tactic| (k_here; k_dflt (refine LCg.CompSrc.range (by rfl) (by k_asm) (by k_asm) (by assumption) (small_one (by omega) (by omega) (by omega) (by omega)) (rangeSize_nat _ _) (by rw [PySem.sizeLine_eq]; omega) ?_; intro g'; (refine' vals_range ?gm (fun i' t' I' oI' C' oC' D' m' ys' h' tk' E' hlt' hC' hx' F' N' off' ne' => ?_) ?_); (case gm => assumption))))
local macro_rules | `(tactic| walk_at "FinE") => `(tactic| (unfold LCg.FinE; intro D' h' tk' F' N' o1'; (have o9 := off1_all o1'); (try simp only [List.nil_append, List.cons_append] at N'); (try dsimp only)))
local macro_rules | `(tactic| walk_at "CompEnd") => `(tactic| refine LCg.CompEnd.intro (by k_asm) (by k_asm) _ (fun _ hp => hp) (by assumption) True.intro ⟨?_, rfl⟩)
set_option maxHeartbeats 1000000 in
theorem due_place {w : World} {op a e b lim : Int} {to ta te tb tl : Tok} {v : Value} {ra sa : Addr} {row src : List Value} {c c2 : Nat} {news} (h5 : op ≠ 5) (h3 : op ≠ 3) (hr : (ra, listOf row.toArray c) ∈ news) (hs : (sa, listOf src.toArray c2) ∈ news) (hz : row.length ≤ 100) (hz2 : src.length ≤ 100)
    (h0 : 0 ≤ a ∧ 0 ≤ b ∧ a + b ≤ row.length) (h : 0 ≤ e ∧ e + b ≤ src.length) :
    Tel w 211 20 90 [.int op to, .ref ra, .int a ta, v, .ref sa, .int e te, .int b tb, .int lim tl] news (DueO "" (· = .none) ((List.range ((row.length : Int) - 0).toNat).map (fun (i : Nat) => if a ≤ 0 + (i : Int) ∧ 0 + (i : Int) < a + b then src.getD (e + (0 + (i : Int)) - a).toNat Value.none else row.getD (0 + (i : Int)).toNat Value.none)) ra news) := by
  unfold Tel
  intro mean mg mb dp un gd cn cs fa0 ccd cl outer A₀ base h₀ L m s Q E B F X N T hkd hdp hun hret
  revert X; k_fill; intro X
  refine wpAny_call ?_
  k_dflt (refine' code_defC ?k1 ?k2 ?k3 ?k4 ?k5 ?kA ?kF ?kK ?k6 ?k7 ?k8 ?k9 ?kB ?kD ?_ ?c2 ?c3 ?c4; (case kA => exact rfl); (case kF => exact rfl); (case kK => assumption); (case k1 => k_asm); (case k2 => k_asm); (case k3 => k_asm); (case k4 => k_asm); (case k5 => k_asm); (case k6 => k_is); (case k7 => k_is); (case k8 => ktr_room); (case k9 => exact BindsTo.of_eq rfl); (case kB => exact rfl); (case kD => decide +kernel); (case c2 => exact rfl); (case c3 => exact rfl); (case c4 => exact rfl))
  intro g' L' h' tk' cells' FG' F' N' Y' B' X' T' l1
  k_cells Y'
  (try simp only [List.cons_append, List.nil_append] at N')
  (try dsimp only)
  (try k_fold)
  have hg9 : GMark (fun (i : Nat) => if a ≤ 0 + (i : Int) ∧ 0 + (i : Int) < a + b then src.getD (e + (0 + (i : Int)) - a).toNat Value.none else row.getD (0 + (i : Int)).toNat Value.none) := trivial
  k_steps
  all_goals first | exact (if_pos ⟨by assumption, by assumption⟩).symm | exact (if_neg (by omega)).symm | (exact hret _ _ _ _ (by k_asm) (by k_asm) ⟨_, _, _, _, _, _, rfl, by k_mem, by k_mem, by (first | rfl | exact ⟨_, rfl⟩), by k_mem, by (intro p hp; repeat (first | exact hp | refine List.mem_cons_of_mem _ ?_)), by (first | exact .inl rfl | exact .inr (sub_ne (by assumption) (by intro p hp; repeat (first | exact hp | refine List.mem_cons_of_mem _ ?_))) | exact .inr (sub_lt (by assumption) (by intro p hp; repeat (first | exact hp | refine List.mem_cons_of_mem _ ?_))))⟩)
end
end
theorem rs_j12_12 {M : Model} {A : Around} {E : Value → Shared → Prop} {env : Env} {s : Shared} {Q : Flow → Shared → Prop} (h : Q .next s) : wpAny M A (execs [] env) Q E s := by
  walk1
  exact h
section
def ToldO (Out : Value → List (Addr × Obj) → Prop) (bad : Prop) (v0 : Value) (news : List (Addr × Obj)) (r : Value) (n : List (Addr × Obj)) : Prop :=
  (∃ D k r' n', Out r' n' ∧ r = .ref D ∧ n = (D, tupObj [.str "" k, r']) :: n') ∨ (bad ∧ ∃ D, r = .ref D ∧ n = (D, tupObj [v0, .none]) :: news)
local macro_rules | `(tactic| walk_at "call ref") => `(tactic| (k_here; k_dflt (refine' telX_use (fun r9 n9 h' tk' F' N' hO => ?_) (fun hb e9 h' tk' g9 FX' UX' RX' => ?_)); (all_goals (try dsimp only))))
local macro_rules | `(tactic| walk_at "noteFrame ref") => `(tactic| (k_here; k_dflt (refine' caught_X ?_); intro h' tk' dx' kk' vs' sl' o0' E' hn0' F' N'; (try dsimp only)))
local macro_rules | `(tactic| walk_at "LeaveO") => `(tactic| (k_dflt (refine' leaveO_ ?_); intro kF kN; (try dsimp only)))
local macro_rules | `(tactic| walk_at "getAttr ref") => `(tactic| (k_here; k_dflt (refine' get_why ?F ?X ?I ?k1 ?k2 ?k3 ?k5 ?k6 ?k7 ?k8 ?k9 ?_; (case F => k_asm); (case X => k_asm); (case I => (refine' inst_exc ?N ?h1 ?h2; (case N => k_asm); (case h1 => k_mem); (case h2 => k_mem))); (case k1 => k_is); (case k2 => k_is); (case k3 => k_is); (case k5 => k_is); (case k6 => k_is); (case k7 => k_is); (case k8 => k_get); (case k9 => k_handed)); (try dsimp only)))
set_option maxHeartbeats 1000000 in
theorem told_0 {w : World} {a e b : Int} {to ta te tb k0 : Tok} {v ot sv : Value} {Out : Value → List (Addr × Obj) → Prop} {bad : Prop} {msg : Str} {k1 k2 k3 k4 : Tok} {kd mo el : Value} {t d i : Addr} {items : List Value} {c : Nat} {news : List (Addr × Obj)} (ht : (t, instObj 159 d) ∈ news := by k_mem) (hd : (d, TDict w k1 k2 k3 k4 kd mo el i) ∈ news := by k_mem) (hi : (i, listOf items.toArray c) ∈ news := by k_mem) (hz : items.length ≤ 400 := by assumption)
    (hX : TelX w 121 16 70 [.ref t, .int a ta, v] news Out bad 44 (.str msg k0)) :
    TelT w 218 24 120 [.int 0 to, .ref t, ot, .int a ta, v, sv, .int e te, .int b tb] news (ToldO Out bad (.str msg k0) news) := by
  unfold TelT
  intro mean mg mb dp un gd cn cs fa0 ccd cl outer A₀ h₀ L m s Q E B F X N T hkd hdp hun hret
  revert X; k_fill; intro X
  refine wpAny_call ?_
  k_dflt (refine' code_defO ?k1 ?k2 ?k3 ?k4 ?k5 ?kA ?kF ?kK ?k6 ?k7 ?k8 ?k9 ?kB ?_ ?c2 ?c3 ?c4 ?c5; (case kA => exact rfl); (case kF => exact rfl); (case kK => assumption); (case k1 => k_asm); (case k2 => k_asm); (case k3 => k_asm); (case k4 => k_asm); (case k5 => k_asm); (case k6 => k_is); (case k7 => k_is); (case k8 => ktr_room); (case k9 => exact BindsTo.of_eq rfl); (case c5 => decide); (case kB => exact locs rfl); (case c2 => exact rfl); (case c3 => exact rfl); (case c4 => exact rfl))
  intro g' L' h' FG' F' N' B' X' T'
  have hab : h₀.objs.size ≤ L' := Nat.le_trans FG'.above (Nat.le_of_lt (Nat.lt_of_lt_of_le FG'.ns.lt F'.above))
  (try dsimp only)
  (try k_fold)
  k_steps
  all_goals first | (exact hret _ _ _ _ (by k_asm) (by k_asm) (.inl ⟨_, _, _, _, (by assumption), rfl, rfl⟩)) | (exact leaveO_caught (news' := (_, tupObj [_, .none]) :: news) (by assumption) (by k_asm) (by k_asm) (by k_mem) FG'.above (by intro p hp; rcases List.mem_cons.mp hp with rfl | hp; (exact ⟨.head _, Nat.ne_of_gt (And.left (by assumption))⟩); exact ⟨.tail _ (.tail _ (.tail _ (.tail _ hp))), (N p hp).2.1⟩) (fun kF kN => hret _ _ _ _ kF kN (.inr ⟨(by assumption), _, rfl, rfl⟩)))
set_option maxHeartbeats 1000000 in
theorem told_1 {w : World} {a e b : Int} {to ta te tb k0 : Tok} {v ot sv : Value} {Out : Value → List (Addr × Obj) → Prop} {bad : Prop} {msg : Str} {k1 k2 k3 k4 : Tok} {kd mo el : Value} {t d i : Addr} {items : List Value} {c : Nat} {news : List (Addr × Obj)} (ht : (t, instObj 159 d) ∈ news := by k_mem) (hd : (d, TDict w k1 k2 k3 k4 kd mo el i) ∈ news := by k_mem) (hi : (i, listOf items.toArray c) ∈ news := by k_mem) (hz : items.length ≤ 400 := by assumption)
    (hX : TelX w 142 16 70 [.ref t, .int a ta, .ref t, .int e te, .int b tb] news Out bad 44 (.str msg k0)) :
    TelT w 218 24 120 [.int 1 to, .ref t, ot, .int a ta, v, sv, .int e te, .int b tb] news (ToldO Out bad (.str msg k0) news) := by
  unfold TelT
  intro mean mg mb dp un gd cn cs fa0 ccd cl outer A₀ h₀ L m s Q E B F X N T hkd hdp hun hret
  revert X; k_fill; intro X
  refine wpAny_call ?_
  k_dflt (refine' code_defO ?k1 ?k2 ?k3 ?k4 ?k5 ?kA ?kF ?kK ?k6 ?k7 ?k8 ?k9 ?kB ?_ ?c2 ?c3 ?c4 ?c5; (case kA => exact rfl); (case kF => exact rfl); (case kK => assumption); (case k1 => k_asm); (case k2 => k_asm); (case k3 => k_asm); (case k4 => k_asm); (case k5 => k_asm); (case k6 => k_is); (case k7 => k_is); (case k8 => ktr_room); (case k9 => exact BindsTo.of_eq rfl); (case c5 => decide); (case kB => exact locs rfl); (case c2 => exact rfl); (case c3 => exact rfl); (case c4 => exact rfl))
  intro g' L' h' FG' F' N' B' X' T'
  have hab : h₀.objs.size ≤ L' := Nat.le_trans FG'.above (Nat.le_of_lt (Nat.lt_of_lt_of_le FG'.ns.lt F'.above))
  (try dsimp only)
  (try k_fold)
  k_steps
  all_goals first | (exact hret _ _ _ _ (by k_asm) (by k_asm) (.inl ⟨_, _, _, _, (by assumption), rfl, rfl⟩)) | (exact leaveO_caught (news' := (_, tupObj [_, .none]) :: news) (by assumption) (by k_asm) (by k_asm) (by k_mem) FG'.above (by intro p hp; rcases List.mem_cons.mp hp with rfl | hp; (exact ⟨.head _, Nat.ne_of_gt (And.left (by assumption))⟩); exact ⟨.tail _ (.tail _ (.tail _ (.tail _ hp))), (N p hp).2.1⟩) (fun kF kN => hret _ _ _ _ kF kN (.inr ⟨(by assumption), _, rfl, rfl⟩)))
set_option maxHeartbeats 1000000 in
theorem told_2 {w : World} {a e b : Int} {to ta te tb k0 : Tok} {v ot sv : Value} {Out : Value → List (Addr × Obj) → Prop} {bad : Prop} {msg : Str} {k1 k2 k3 k4 : Tok} {kd mo el : Value} {t d i : Addr} {items : List Value} {c : Nat} {news : List (Addr × Obj)} (ht : (t, instObj 159 d) ∈ news := by k_mem) (hd : (d, TDict w k1 k2 k3 k4 kd mo el i) ∈ news := by k_mem) (hi : (i, listOf items.toArray c) ∈ news := by k_mem) (hz : items.length ≤ 400 := by assumption)
    (hX : TelX w 135 16 70 [.ref t, .int a ta, v, .int b tb] news Out bad 44 (.str msg k0)) :
    TelT w 218 24 120 [.int 2 to, .ref t, ot, .int a ta, v, sv, .int e te, .int b tb] news (ToldO Out bad (.str msg k0) news) := by
  unfold TelT
  intro mean mg mb dp un gd cn cs fa0 ccd cl outer A₀ h₀ L m s Q E B F X N T hkd hdp hun hret
  revert X; k_fill; intro X
  refine wpAny_call ?_
  k_dflt (refine' code_defO ?k1 ?k2 ?k3 ?k4 ?k5 ?kA ?kF ?kK ?k6 ?k7 ?k8 ?k9 ?kB ?_ ?c2 ?c3 ?c4 ?c5; (case kA => exact rfl); (case kF => exact rfl); (case kK => assumption); (case k1 => k_asm); (case k2 => k_asm); (case k3 => k_asm); (case k4 => k_asm); (case k5 => k_asm); (case k6 => k_is); (case k7 => k_is); (case k8 => ktr_room); (case k9 => exact BindsTo.of_eq rfl); (case c5 => decide); (case kB => exact locs rfl); (case c2 => exact rfl); (case c3 => exact rfl); (case c4 => exact rfl))
  intro g' L' h' FG' F' N' B' X' T'
  have hab : h₀.objs.size ≤ L' := Nat.le_trans FG'.above (Nat.le_of_lt (Nat.lt_of_lt_of_le FG'.ns.lt F'.above))
  (try dsimp only)
  (try k_fold)
  k_steps
  all_goals first | (exact hret _ _ _ _ (by k_asm) (by k_asm) (.inl ⟨_, _, _, _, (by assumption), rfl, rfl⟩)) | (exact leaveO_caught (news' := (_, tupObj [_, .none]) :: news) (by assumption) (by k_asm) (by k_asm) (by k_mem) FG'.above (by intro p hp; rcases List.mem_cons.mp hp with rfl | hp; (exact ⟨.head _, Nat.ne_of_gt (And.left (by assumption))⟩); exact ⟨.tail _ (.tail _ (.tail _ (.tail _ hp))), (N p hp).2.1⟩) (fun kF kN => hret _ _ _ _ kF kN (.inr ⟨(by assumption), _, rfl, rfl⟩)))
set_option maxHeartbeats 1000000 in
theorem told_3 {w : World} {a e b : Int} {to ta te tb k0 : Tok} {v ot sv : Value} {Out : Value → List (Addr × Obj) → Prop} {bad : Prop} {msg : Str} {k1 k2 k3 k4 : Tok} {kd mo el : Value} {t d i : Addr} {items : List Value} {c : Nat} {news : List (Addr × Obj)} (ht : (t, instObj 159 d) ∈ news := by k_mem) (hd : (d, TDict w k1 k2 k3 k4 kd mo el i) ∈ news := by k_mem) (hi : (i, listOf items.toArray c) ∈ news := by k_mem) (hz : items.length ≤ 400 := by assumption)
    (hX : TelX w 114 16 70 [.ref t, .int a ta] news Out bad 44 (.str msg k0)) :
    TelT w 218 24 120 [.int 3 to, .ref t, ot, .int a ta, v, sv, .int e te, .int b tb] news (ToldO Out bad (.str msg k0) news) := by
  unfold TelT
  intro mean mg mb dp un gd cn cs fa0 ccd cl outer A₀ h₀ L m s Q E B F X N T hkd hdp hun hret
  revert X; k_fill; intro X
  refine wpAny_call ?_
  k_dflt (refine' code_defO ?k1 ?k2 ?k3 ?k4 ?k5 ?kA ?kF ?kK ?k6 ?k7 ?k8 ?k9 ?kB ?_ ?c2 ?c3 ?c4 ?c5; (case kA => exact rfl); (case kF => exact rfl); (case kK => assumption); (case k1 => k_asm); (case k2 => k_asm); (case k3 => k_asm); (case k4 => k_asm); (case k5 => k_asm); (case k6 => k_is); (case k7 => k_is); (case k8 => ktr_room); (case k9 => exact BindsTo.of_eq rfl); (case c5 => decide); (case kB => exact locs rfl); (case c2 => exact rfl); (case c3 => exact rfl); (case c4 => exact rfl))
  intro g' L' h' FG' F' N' B' X' T'
  have hab : h₀.objs.size ≤ L' := Nat.le_trans FG'.above (Nat.le_of_lt (Nat.lt_of_lt_of_le FG'.ns.lt F'.above))
  (try dsimp only)
  (try k_fold)
  k_steps
  all_goals first | (exact hret _ _ _ _ (by k_asm) (by k_asm) (.inl ⟨_, _, _, _, (by assumption), rfl, rfl⟩)) | (exact leaveO_caught (news' := (_, tupObj [_, .none]) :: news) (by assumption) (by k_asm) (by k_asm) (by k_mem) FG'.above (by intro p hp; rcases List.mem_cons.mp hp with rfl | hp; (exact ⟨.head _, Nat.ne_of_gt (And.left (by assumption))⟩); exact ⟨.tail _ (.tail _ (.tail _ (.tail _ hp))), (N p hp).2.1⟩) (fun kF kN => hret _ _ _ _ kF kN (.inr ⟨(by assumption), _, rfl, rfl⟩)))
set_option maxHeartbeats 1000000 in
theorem told_4 {w : World} {a e b : Int} {to ta te tb k0 : Tok} {v ot sv : Value} {Out : Value → List (Addr × Obj) → Prop} {bad : Prop} {msg : Str} {k1 k2 k3 k4 : Tok} {kd mo el : Value} {t d i : Addr} {items : List Value} {c : Nat} {news : List (Addr × Obj)} (ht : (t, instObj 159 d) ∈ news := by k_mem) (hd : (d, TDict w k1 k2 k3 k4 kd mo el i) ∈ news := by k_mem) (hi : (i, listOf items.toArray c) ∈ news := by k_mem) (hz : items.length ≤ 400 := by assumption)
    (hX : TelX w 149 16 70 [.ref t, .int a ta, sv, .int e te, .int b tb] news Out bad 44 (.str msg k0)) :
    TelT w 218 24 120 [.int 4 to, .ref t, ot, .int a ta, v, sv, .int e te, .int b tb] news (ToldO Out bad (.str msg k0) news) := by
  unfold TelT
  intro mean mg mb dp un gd cn cs fa0 ccd cl outer A₀ h₀ L m s Q E B F X N T hkd hdp hun hret
  revert X; k_fill; intro X
  refine wpAny_call ?_
  k_dflt (refine' code_defO ?k1 ?k2 ?k3 ?k4 ?k5 ?kA ?kF ?kK ?k6 ?k7 ?k8 ?k9 ?kB ?_ ?c2 ?c3 ?c4 ?c5; (case kA => exact rfl); (case kF => exact rfl); (case kK => assumption); (case k1 => k_asm); (case k2 => k_asm); (case k3 => k_asm); (case k4 => k_asm); (case k5 => k_asm); (case k6 => k_is); (case k7 => k_is); (case k8 => ktr_room); (case k9 => exact BindsTo.of_eq rfl); (case c5 => decide); (case kB => exact locs rfl); (case c2 => exact rfl); (case c3 => exact rfl); (case c4 => exact rfl))
  intro g' L' h' FG' F' N' B' X' T'
  have hab : h₀.objs.size ≤ L' := Nat.le_trans FG'.above (Nat.le_of_lt (Nat.lt_of_lt_of_le FG'.ns.lt F'.above))
  (try dsimp only)
  (try k_fold)
  k_steps
  all_goals first | (exact hret _ _ _ _ (by k_asm) (by k_asm) (.inl ⟨_, _, _, _, (by assumption), rfl, rfl⟩)) | (exact leaveO_caught (news' := (_, tupObj [_, .none]) :: news) (by assumption) (by k_asm) (by k_asm) (by k_mem) FG'.above (by intro p hp; rcases List.mem_cons.mp hp with rfl | hp; (exact ⟨.head _, Nat.ne_of_gt (And.left (by assumption))⟩); exact ⟨.tail _ (.tail _ (.tail _ (.tail _ hp))), (N p hp).2.1⟩) (fun kF kN => hret _ _ _ _ kF kN (.inr ⟨(by assumption), _, rfl, rfl⟩)))
set_option maxHeartbeats 1000000 in
theorem told_5 {w : World} {a e b : Int} {to ta te tb k0 : Tok} {v ot sv : Value} {Out : Value → List (Addr × Obj) → Prop} {bad : Prop} {msg : Str} {k1 k2 k3 k4 : Tok} {kd mo el : Value} {t d i : Addr} {items : List Value} {c : Nat} {news : List (Addr × Obj)} (ht : (t, instObj 159 d) ∈ news := by k_mem) (hd : (d, TDict w k1 k2 k3 k4 kd mo el i) ∈ news := by k_mem) (hi : (i, listOf items.toArray c) ∈ news := by k_mem) (hz : items.length ≤ 400 := by assumption)
    (hX : TelX w 128 16 70 [.ref t, .int b tb, v] news Out bad 44 (.str msg k0)) :
    TelT w 218 24 120 [.int 5 to, .ref t, ot, .int a ta, v, sv, .int e te, .int b tb] news (ToldO Out bad (.str msg k0) news) := by
  unfold TelT
  intro mean mg mb dp un gd cn cs fa0 ccd cl outer A₀ h₀ L m s Q E B F X N T hkd hdp hun hret
  revert X; k_fill; intro X
  refine wpAny_call ?_
  k_dflt (refine' code_defO ?k1 ?k2 ?k3 ?k4 ?k5 ?kA ?kF ?kK ?k6 ?k7 ?k8 ?k9 ?kB ?_ ?c2 ?c3 ?c4 ?c5; (case kA => exact rfl); (case kF => exact rfl); (case kK => assumption); (case k1 => k_asm); (case k2 => k_asm); (case k3 => k_asm); (case k4 => k_asm); (case k5 => k_asm); (case k6 => k_is); (case k7 => k_is); (case k8 => ktr_room); (case k9 => exact BindsTo.of_eq rfl); (case c5 => decide); (case kB => exact locs rfl); (case c2 => exact rfl); (case c3 => exact rfl); (case c4 => exact rfl))
  intro g' L' h' FG' F' N' B' X' T'
  have hab : h₀.objs.size ≤ L' := Nat.le_trans FG'.above (Nat.le_of_lt (Nat.lt_of_lt_of_le FG'.ns.lt F'.above))
  (try dsimp only)
  (try k_fold)
  k_steps
  all_goals first | (exact hret _ _ _ _ (by k_asm) (by k_asm) (.inl ⟨_, _, _, _, (by assumption), rfl, rfl⟩)) | (exact leaveO_caught (news' := (_, tupObj [_, .none]) :: news) (by assumption) (by k_asm) (by k_asm) (by k_mem) FG'.above (by intro p hp; rcases List.mem_cons.mp hp with rfl | hp; (exact ⟨.head _, Nat.ne_of_gt (And.left (by assumption))⟩); exact ⟨.tail _ (.tail _ (.tail _ (.tail _ hp))), (N p hp).2.1⟩) (fun kF kN => hret _ _ _ _ kF kN (.inr ⟨(by assumption), _, rfl, rfl⟩)))
set_option maxHeartbeats 1000000 in
theorem told_6 {w : World} {a e b : Int} {to ta te tb k0 : Tok} {v ot sv : Value} {Out : Value → List (Addr × Obj) → Prop} {bad : Prop} {msg : Str} {k1 k2 k3 k4 : Tok} {kd mo el : Value} {t d i : Addr} {items : List Value} {c : Nat} {news : List (Addr × Obj)} (ht : (t, instObj 159 d) ∈ news := by k_mem) (hd : (d, TDict w k1 k2 k3 k4 kd mo el i) ∈ news := by k_mem) (hi : (i, listOf items.toArray c) ∈ news := by k_mem) (hz : items.length ≤ 400 := by assumption)
    (hX : TelX w 142 16 70 [.ref t, .int a ta, ot, .int e te, .int b tb] news Out bad 44 (.str msg k0)) :
    TelT w 218 24 120 [.int 6 to, .ref t, ot, .int a ta, v, sv, .int e te, .int b tb] news (ToldO Out bad (.str msg k0) news) := by
  unfold TelT
  intro mean mg mb dp un gd cn cs fa0 ccd cl outer A₀ h₀ L m s Q E B F X N T hkd hdp hun hret
  revert X; k_fill; intro X
  refine wpAny_call ?_
  k_dflt (refine' code_defO ?k1 ?k2 ?k3 ?k4 ?k5 ?kA ?kF ?kK ?k6 ?k7 ?k8 ?k9 ?kB ?_ ?c2 ?c3 ?c4 ?c5; (case kA => exact rfl); (case kF => exact rfl); (case kK => assumption); (case k1 => k_asm); (case k2 => k_asm); (case k3 => k_asm); (case k4 => k_asm); (case k5 => k_asm); (case k6 => k_is); (case k7 => k_is); (case k8 => ktr_room); (case k9 => exact BindsTo.of_eq rfl); (case c5 => decide); (case kB => exact locs rfl); (case c2 => exact rfl); (case c3 => exact rfl); (case c4 => exact rfl))
  intro g' L' h' FG' F' N' B' X' T'
  have hab : h₀.objs.size ≤ L' := Nat.le_trans FG'.above (Nat.le_of_lt (Nat.lt_of_lt_of_le FG'.ns.lt F'.above))
  (try dsimp only)
  (try k_fold)
  k_steps
  all_goals first | (exact hret _ _ _ _ (by k_asm) (by k_asm) (.inl ⟨_, _, _, _, (by assumption), rfl, rfl⟩)) | (exact leaveO_caught (news' := (_, tupObj [_, .none]) :: news) (by assumption) (by k_asm) (by k_asm) (by k_mem) FG'.above (by intro p hp; rcases List.mem_cons.mp hp with rfl | hp; (exact ⟨.head _, Nat.ne_of_gt (And.left (by assumption))⟩); exact ⟨.tail _ (.tail _ (.tail _ (.tail _ hp))), (N p hp).2.1⟩) (fun kF kN => hret _ _ _ _ kF kN (.inr ⟨(by assumption), _, rfl, rfl⟩)))
end
theorem rs_j13_13 {M : Model} {A : Around} {E : Value → Shared → Prop} {env : Env} {s : Shared} {Q : Flow → Shared → Prop} (h : Q .next s) : wpAny M A (execs [] env) Q E s := by
  walk1
  exact h
section
theorem ne_int_same {prog : Program} {w : World} {A : Around} {E : Value → Shared → Prop} {s : Shared} {Q : Value → Shared → Prop} {a : Int} {t u : Tok} (hq : Q (.bool false) s) : wpAny (model prog w) A (compareOp .NotEq (.int a t) (.int a u)) Q E s :=
  ne_int (by rw [bne_self_eq_false]; exact hq)
section
local macro_rules | `(tactic| walk_at "call ref") => `(tactic| (k_here; k_dflt (show wpAny _ _ (call (Value.ref 156) _) _ _ _); k_dflt (refine' tel_use (C := plain_tel (hkd' := cell_handed (by assumption)) (hmo := cell_handed (by assumption))) (ret := ?_)); intro r9 n9 h' tk' F' N' hO; obtain ⟨D9, E9, e1, e2, l1, l2⟩ := hO; subst e1; subst e2; (try dsimp only)))
local macro_rules | `(tactic| walk_at "call ref") => `(tactic| (k_here; k_dflt (show wpAny _ _ (call (Value.ref 100) _) _ _ _); k_dflt (refine' tel_use (C := kind_tel (hkd' := cell_handed (by assumption)) (hmo := cell_handed (by assumption))) (ret := ?_)); intro r9 n9 h' tk' F' N' hO; obtain ⟨D9, t9, e1, e2, l1⟩ := hO; subst e1; subst e2; (try dsimp only)))
local macro_rules | `(tactic| walk_at "call ref") => `(tactic| (k_here; k_dflt (show wpAny _ _ (call (Value.ref 93) _) _ _ _); k_dflt (refine' tel_use (C := size_tel) (ret := ?_)); intro r9 n9 h' tk' F' N' hO; obtain ⟨⟨t9, e1⟩, e2⟩ := hO; subst e1; subst e2; (try dsimp only)))
local macro_rules | `(tactic| walk_at "compareOp NotEq int int") => `(tactic| (k_dflt (refine' ne_int_same ?_)))
local macro_rules | `(tactic| walk_at "compareOp NotEq ref ref") => `(tactic| (k_here; k_dflt (first | refine' ne_plain ?_ | refine' ne_kind ?_); (try dsimp only)))
local macro_rules | `(tactic| walk_at "UnrEnd") => `(tactic| (k_dflt (refine' UnrEnd.intro ?F ?N _ ?sub ?off ?_; (case F => k_asm); (case N => k_asm); (case off => first | exact ne_all (by assumption) | exact ne_all (of_allLt (by assumption))); (case sub => (refine' List.forall_mem_cons.mpr ⟨?s1, ?s2⟩; (case s1 => k_mem); (case s2 => (intro p hp; repeat (first | exact hp | refine List.mem_cons_of_mem _ ?_)))))); (try dsimp only)))
set_option maxHeartbeats 2000000 in
theorem same_tel {w : World} {T R Kl Ml t0 t1 d0 d1 i0 i1 a0 a1 : Addr} {cT cR cK cM c0 c1 b0 b1 : Nat} {k10 k20 k30 k40 k11 k21 k31 k41 : Tok} {kd0 kd1 mo0 mo1 el0 el1 : Value} {r0 r1 : List Value} {news : List (Addr × Obj)}
    (hT : (T, listOf [.ref t0, .ref t1].toArray cT) ∈ news) (hR : (R, listOf [.ref a0, .ref a1].toArray cR) ∈ news) (hK : (Kl, listOf [kd0, kd1].toArray cK) ∈ news) (hM : (Ml, listOf [mo0, mo1].toArray cM) ∈ news)
    (ht0 : (t0, instObj 159 d0) ∈ news) (hd0 : (d0, TDict w k10 k20 k30 k40 kd0 mo0 el0 i0) ∈ news) (hi0 : (i0, listOf r0.toArray c0) ∈ news) (ha0 : (a0, listOf r0.toArray b0) ∈ news)
    (ht1 : (t1, instObj 159 d1) ∈ news) (hd1 : (d1, TDict w k11 k21 k31 k41 kd1 mo1 el1 i1) ∈ news) (hi1 : (i1, listOf r1.toArray c1) ∈ news) (ha1 : (a1, listOf r1.toArray b1) ∈ news)
    (ck0 : Cell kd0) (ck1 : Cell kd1) (cm0 : Cell mo0) (cm1 : Cell mo1) (cv0 : ∀ v ∈ r0, Cell v) (cv1 : ∀ v ∈ r1, Cell v) (hz0 : r0.length ≤ 400) (hz1 : r1.length ≤ 400) :
    Tel w 239 20 200 [.ref T, .ref R, .ref Kl, .ref Ml] news (fun r n => r = .bool true ∧ n = news) := by
  unfold Tel
  intro mean mg mb dp un gd cn cs fa0 ccd cl outer A₀ base h₀ L m s Q E B F X N T hkd hdp hun hret
  revert X; k_fill; intro X
  refine wpAny_call ?_
  k_dflt ktr_enter
  k_steps
  all_goals (exact hret _ _ _ _ (by k_asm) (by first | k_asm | exact news_sub (by assumption) (fun p hp => by first | exact hp | exact sub_drop2 p hp | exact sub_drop3 p hp | exact .tail _ hp | exact .tail _ (.tail _ hp) | exact .tail _ (.tail _ (.tail _ hp)) | exact .tail _ (.tail _ (.tail _ (.tail _ hp)))) | exact news_sub (by assumption) (updL_sub fun p hp => by first | exact hp | exact sub_drop2 p hp | exact sub_drop3 p hp | exact .tail _ hp | exact .tail _ (.tail _ hp) | exact .tail _ (.tail _ (.tail _ hp)) | exact .tail _ (.tail _ (.tail _ (.tail _ hp))))) ⟨rfl, rfl⟩)
end
end
theorem rs_j14_14 {M : Model} {A : Around} {E : Value → Shared → Prop} {env : Env} {s : Shared} {Q : Flow → Shared → Prop} (h : Q .next s) : wpAny M A (execs [] env) Q E s := by
  walk1
  exact h
section
def TelRE (w : World) (f : Addr) (dd uu : Nat) (args : List Value) (news : List (Addr × Obj)) (C : Addr) (x : Str) : Prop :=
  ∀ (mean : ExcName → Option Value) (mg mb : Str → Option Value) (dp un : Nat) (gd : Option (List Code)) (cn : Str) (cs : Scope) (a : Addr) (ccd : Value) (cl : List (Str × Addr)) (outer : List Env) (A₀ : Around) (base h₀ : Heap) (L : Addr) (m : Str → Option Value) (s : Shared) (Q E : Value → Shared → Prop),
    Below A₀ base outer h₀ → Fr h₀ L s.heap m → (Mine.hd.heap_39 w.params).In h₀ → News h₀ L s.heap news → Top Mine.hd.view_39 (looseW Mine.hd.view_39 []) mean mg mb h₀ → cs.kind = .function → dp + dd < recursionLimit → un + uu < cLine →
    (∀ e h' tk' g₂ k, Fr h₀ L g₂ m → g₂.UpToSlots h' → RaisedX base (envX cn cs L a ccd cl :: outer) e C (.str x k) (PyData.keyHash w.params "why") news h' → E (.ref e) { s with heap := h', toks := tk' }) →
    wpAny (model PySem.Challenge.rw_nm0113_01.row.prog w) (ktrTop dp un gd cn cs L a ccd cl outer) (call (.ref f) args) Q E s
theorem telRE_use {w : World} {f : Addr} {dd uu : Nat} {args : List Value} {news : List (Addr × Obj)} {Cx : Addr} {x : Str}
    {mean : ExcName → Option Value} {mg mb : Str → Option Value} {dp un : Nat} {gd : Option (List Code)} {cn : Str} {cs : Scope} {a : Addr} {ccd : Value} {cl : List (Str × Addr)} {outer : List Env} {A₀ : Around} {base h₀ : Heap} {L : Addr} {m : Str → Option Value} {s : Shared} {Q E : Value → Shared → Prop}
    (rse : ∀ e h' tk' g₂ k, Fr h₀ L g₂ m → g₂.UpToSlots h' → RaisedX base (envX cn cs L a ccd cl :: outer) e Cx (.str x k) (PyData.keyHash w.params "why") news h' → E (.ref e) { s with heap := h', toks := tk' })
    (C : TelRE w f dd uu args news Cx x := by assumption)
    (B : Below A₀ base outer h₀ := by k_asm) (F : Fr h₀ L s.heap m := by k_asm) (X : (Mine.hd.heap_39 w.params).In h₀ := by k_asm) (N : News h₀ L s.heap news := by k_asm) (T : Top Mine.hd.view_39 (looseW Mine.hd.view_39 []) mean mg mb h₀ := by k_asm) (hk : cs.kind = .function := by first | exact rfl | assumption) (hd : dp + dd < recursionLimit := by ktr_room) (hu : un + uu < cLine := by ktr_units) :
    wpAny (model PySem.Challenge.rw_nm0113_01.row.prog w) (ktrTop dp un gd cn cs L a ccd cl outer) (call (.ref f) args) Q E s :=
  C mean mg mb dp un gd cn cs a ccd cl outer A₀ base h₀ L m s Q E B F X N T hk hd hu rse
theorem under_make {dp un : Nat} {gd : Option (List Code)} {cn : Str} {cs : Scope} {L a : Addr} {ccd : Value} {cl : List (Str × Addr)} {outer : List Env} {C : Addr} {pos : List Value} {kw : List (Str × Value)} :
    (ktrTop dp un gd cn cs L a ccd cl outer).under (.builtin "type.__call__" ⟨.ref C :: pos, kw⟩) = ktrTop (dp + 1) (un + 1) gd cn cs L a ccd cl outer := by rfl
theorem ne_allB {news : List (Addr × Obj)} {D : Addr} (h : ∀ p ∈ news, p.1 < D) : ∀ p ∈ news, p.1 ≠ D := fun p hp => Nat.ne_of_lt (h p hp)
section
local macro_rules | `(tactic| k_all) => `(tactic| exact ne_allB (by assumption))
local macro_rules | `(tactic| walk_at "call ref") => `(tactic| (k_here; k_dflt (show wpAny _ _ (call (Value.ref 56) _) _ _ _); k_dflt (refine' tel_use (C := misused_made _ _ _) (ret := ?_)); intro r9 n9 h' tk' F' N' hO; (have hO9 := hO); obtain ⟨e9, dx9, t9, k9, rest9, e1, e2, i1, i2, i3, i4, i5⟩ := hO9; subst e1; subst e2; refine ⟨_, _, _, rfl, Frag.In.keeps (by k_asm) (Fr.keep (by k_asm)), News.get (by k_asm) (.head _), ?_⟩; (try dsimp only)))
local macro_rules | `(tactic| walk_at "exec Raise some none") => `(tactic| (k_here; k_dflt (refine' raise_misused ?h ?_; (case h => exact rfl))))
local macro_rules | `(tactic| walk_at "leaving ref") => `(tactic| (k_here; k_dflt (refine' leave_made ?_); intro h' R' U'; (try dsimp only)))
set_option maxHeartbeats 1000000 in
theorem table_bad {w : World} {l e : Int} {tl te : Tok} {kd mo : Value} {sz ds : Addr} {k1 k2 k3 k4 k5 : Tok} {pg pgs dp fu : Value} {news} (hs : (sz, instObj 181 ds) ∈ news) (hds : (ds, SDict w k1 k2 k3 k4 k5 pg pgs (.int e te) dp fu) ∈ news) (h1 : e < l) :
    TelRE w 159 16 70 [kd, .int l tl, mo, .ref sz] news 56 "more elements than are let" := by
  unfold TelRE
  intro mean mg mb dp un gd cn cs fa0 ccd cl outer A₀ base h₀ L m s Q E B F X N T hkd hdp hun hret
  revert X; k_fill; intro X
  k_dflt (refine' call_cls ?k1 ?k2 ?k3 ?k4 ?k5 ?k6 ?_; (case k1 => k_asm); (case k2 => k_asm); (case k3 => k_asm); (case k4 => k_is); (case k5 => k_is); (case k6 => k_is))
  intro x' d' h' F' N' l1 l2
  replace l2 := ltN l2
  rw [under_make]
  k_dflt ktr_enter
  k_steps
  all_goals (refine' hret _ _ _ _ _ ?ea ?eb ?ec; (case eb => k_asm); (case ea => k_asm); (case ec => first | k_asm | exact raisedX_sub (by assumption) (fun p hp => by first | exact hp | exact sub_drop2 p hp | exact sub_drop3 p hp | exact .tail _ hp | exact .tail _ (.tail _ hp) | exact .tail _ (.tail _ (.tail _ hp)) | exact .tail _ (.tail _ (.tail _ (.tail _ hp))))))
end
section
local macro_rules | `(tactic| walk_at "call ref") => `(tactic| (k_here; k_dflt (refine' telRE_use (fun e9 h' tk' g9 kk FX' UX' RX' => ?_)); (try dsimp only)))
local macro_rules | `(tactic| walk_at "noteFrame ref") => `(tactic| (k_here; k_dflt (refine' caught_X ?_); intro h' tk' dx' kk' vs' sl' o0' E' hn0' F' N'; (try dsimp only)))
local macro_rules | `(tactic| walk_at "LeaveO") => `(tactic| (k_dflt (refine' leaveO_ ?_); intro kF kN; (try dsimp only)))
local macro_rules | `(tactic| walk_at "getAttr ref") => `(tactic| (k_here; k_dflt (refine' get_why ?F ?X ?I ?k1 ?k2 ?k3 ?k5 ?k6 ?k7 ?k8 ?k9 ?_; (case F => k_asm); (case X => k_asm); (case I => (refine' inst_exc ?N ?h1 ?h2; (case N => k_asm); (case h1 => k_mem); (case h2 => k_mem))); (case k1 => k_is); (case k2 => k_is); (case k3 => k_is); (case k5 => k_is); (case k6 => k_is); (case k7 => k_is); (case k8 => k_get); (case k9 => k_handed)); (try dsimp only)))
set_option maxHeartbeats 1000000 in
theorem refused_tel {w : World} {l e : Int} {tl te : Tok} {kd : Value} {sz ds : Addr} {k1 k2 k3 k4 k5 : Tok} {pg pgs dp fu : Value} {news : List (Addr × Obj)} (hs : (sz, instObj 181 ds) ∈ news) (hds : (ds, SDict w k1 k2 k3 k4 k5 pg pgs (.int e te) dp fu) ∈ news) (h1 : e < l) :
    TelT w 232 24 120 [kd, .int l tl, .ref sz] news (fun r n => r = .bool true ∧ n = news) := by
  have hX := table_bad (kd := kd) (mo := .none) (tl := tl) hs hds h1
  unfold TelT
  intro mean mg mb dp un gd cn cs fa0 ccd cl outer A₀ h₀ L m s Q E B F X N T hkd hdp hun hret
  revert X; k_fill; intro X
  refine wpAny_call ?_
  k_dflt (refine' code_defO ?k1 ?k2 ?k3 ?k4 ?k5 ?kA ?kF ?kK ?k6 ?k7 ?k8 ?k9 ?kB ?_ ?c2 ?c3 ?c4 ?c5; (case kA => exact rfl); (case kF => exact rfl); (case kK => assumption); (case k1 => k_asm); (case k2 => k_asm); (case k3 => k_asm); (case k4 => k_asm); (case k5 => k_asm); (case k6 => k_is); (case k7 => k_is); (case k8 => ktr_room); (case k9 => exact BindsTo.of_eq rfl); (case c5 => decide); (case kB => exact locs rfl); (case c2 => exact rfl); (case c3 => exact rfl); (case c4 => exact rfl))
  intro g' L' h' FG' F' N' B' X' T'
  have hab : h₀.objs.size ≤ L' := Nat.le_trans FG'.above (Nat.le_of_lt (Nat.lt_of_lt_of_le FG'.ns.lt F'.above))
  (try dsimp only)
  (try k_fold)
  k_steps
  all_goals (exact leaveO_caught (news' := news) (by assumption) (by k_asm) (by k_asm) (by k_mem) FG'.above (by intro p hp; exact ⟨.tail _ (.tail _ (.tail _ hp)), (N p hp).2.1⟩) (fun kF kN => hret _ _ _ _ kF kN ⟨congrArg Value.bool (by rw [beq_self_eq_true]), rfl⟩))
end
end
theorem rs_j15_15 {M : Model} {A : Around} {E : Value → Shared → Prop} {env : Env} {s : Shared} {Q : Flow → Shared → Prop} (h : Q .next s) : wpAny M A (execs [] env) Q E s := by
  walk1
  exact h
section
open PySem.Spec PyProof.V
def defBody : Option Stmt → List Stmt
  | some (.FunctionDef (body := b) ..) => b
  | _ => []
def defScope : Option Stmt → Scope
  | some (.FunctionDef (scope := c) ..) => c
  | _ => default
def forBody : Option Stmt → List Stmt
  | some (.For (body := b) ..) => b
  | _ => []
def lawBody : List Stmt := defBody PySem.Challenge.rw_nm0113_01.row.prog.main.body.getLast?
def lawScope : Scope := defScope PySem.Challenge.rw_nm0113_01.row.prog.main.body.getLast?
def turnBody : List Stmt := forBody (lawBody[16]?)
abbrev LC (c1 c2 c3 c4 c5 c6 c7 : Addr) : List (Str × Addr) := [("sizes", c7), ("kinds", c6), ("mosts", c5), ("leasts", c4), ("elements", c3), ("third", c2), ("second", c1)]
abbrev setL (x : Str) (v : Value) (m : Str → Option Value) : Str → Option Value := fun y => if y = x then some v else m y
/-- a statement of the law's frame: from (m, news) it goes on with (m', news') as Out says -/
def Blk (w : World) (l : Addr) (ns : List Int) (cl : List (Str × Addr)) (st : Stmt) (m : Str → Option Value) (news : List (Addr × Obj)) (Out : (Str → Option Value) → List (Addr × Obj) → Prop) : Prop :=
  ∀ (vs : List Value) (mean : ExcName → Option Value) (mg mb : Str → Option Value) (dp un : Nat) (gd : Option (List Code)) (a : Addr) (ccd : Value) (outer : List Env) (A₀ : Around) (h₀ : Heap) (L : Addr) (s : Shared) (Q : Flow → Shared → Prop) (E : Value → Shared → Prop),
    Below A₀ h₀ outer h₀ → Fr h₀ L s.heap m → (Mine.hd.heap_39 w.params).In h₀ → News h₀ L s.heap news → Top Mine.hd.view_39 (looseW Mine.hd.view_39 []) mean mg mb h₀ → h₀.IsList l vs.toArray → IntsAre vs ns → ns.length ≤ 63 → dp + 40 < recursionLimit → un + 400 < cLine →
    (∀ m' news' h' tk', Fr h₀ L h' m' → News h₀ L h' news' → Out m' news' → Q .next { s with heap := h', toks := tk' }) →
    wpAny (model PySem.Challenge.rw_nm0113_01.row.prog w) (ktrTop dp un gd "law" lawScope L a ccd cl outer) (exec st (envX "law" lawScope L a ccd cl)) Q E s
def stAt (b : List Stmt) (i : Nat) : Stmt := (b[i]?).getD (.Pass default)
theorem stAt_is {b r : List Stmt} {i : Nat} {s : Stmt} (e : b.drop i = s :: r) : s = stAt b i := by
  unfold stAt
  rw [← List.head?_drop, e]
  rfl
theorem blk_lit {w : World} {l : Addr} {ns : List Int} {cl : List (Str × Addr)} {b r : List Stmt} {i : Nat} {s : Stmt} {m : Str → Option Value} {news : List (Addr × Obj)} {Out : (Str → Option Value) → List (Addr × Obj) → Prop}
    (e : b.drop i = s :: r) (h : Blk w l ns cl s m news Out) : Blk w l ns cl (stAt b i) m news Out := stAt_is e ▸ h
theorem telT_use {w : World} {f : Addr} {dd uu : Nat} {args : List Value} {news : List (Addr × Obj)} {Out : Value → List (Addr × Obj) → Prop}
    {mean : ExcName → Option Value} {mg mb : Str → Option Value} {dp un : Nat} {gd : Option (List Code)} {cn : Str} {cs : Scope} {a : Addr} {ccd : Value} {cl : List (Str × Addr)} {outer : List Env} {A₀ : Around} {h₀ : Heap} {L : Addr} {m : Str → Option Value} {s : Shared} {Q E : Value → Shared → Prop}
    (ret : ∀ r news' h' tk', Fr h₀ L h' m → News h₀ L h' news' → Out r news' → Q r { s with heap := h', toks := tk' })
    (C : TelT w f dd uu args news Out := by assumption) (B : Below A₀ h₀ outer h₀ := by k_asm) (F : Fr h₀ L s.heap m := by k_asm) (X : (Mine.hd.heap_39 w.params).In h₀ := by k_asm) (N : News h₀ L s.heap news := by k_asm) (T : Top Mine.hd.view_39 (looseW Mine.hd.view_39 []) mean mg mb h₀ := by k_asm) (hk : cs.kind = .function := by first | exact rfl | assumption) (hd : dp + dd < recursionLimit := by ktr_room) (hu : un + uu < cLine := by ktr_units) :
    wpAny (model PySem.Challenge.rw_nm0113_01.row.prog w) (ktrTop dp un gd cn cs L a ccd cl outer) (call (.ref f) args) Q E s :=
  C mean mg mb dp un gd cn cs a ccd cl outer A₀ h₀ L m s Q E B F X N T hk hd hu ret
theorem telA_use {w : World} {f : Addr} {dd uu : Nat} {args : List Value} {news : List (Addr × Obj)} {Out : Value → List (Addr × Obj) → Prop}
    {mean : ExcName → Option Value} {mg mb : Str → Option Value} {dp un : Nat} {gd : Option (List Code)} {cn : Str} {cs : Scope} {a : Addr} {ccd : Value} {cl : List (Str × Addr)} {outer : List Env} {A₀ : Around} {base h₀ : Heap} {L : Addr} {m : Str → Option Value} {s : Shared} {Q E : Value → Shared → Prop}
    (ret : ∀ r news' h' tk', Fr h₀ L h' m → News h₀ L h' news' → Out r news' → Q r { s with heap := h', toks := tk' })
    (C : Tel w f dd uu args news Out := by assumption) (B : Below A₀ base outer h₀ := by k_asm) (F : Fr h₀ L s.heap m := by k_asm) (X : (Mine.hd.heap_39 w.params).In h₀ := by k_asm) (N : News h₀ L s.heap news := by k_asm) (T : Top Mine.hd.view_39 (looseW Mine.hd.view_39 []) mean mg mb h₀ := by k_asm) (hk : cs.kind = .function := by first | exact rfl | assumption) (hd : dp + dd < recursionLimit := by ktr_room) (hu : un + uu < cLine := by ktr_units) :
    wpAny (model PySem.Challenge.rw_nm0113_01.row.prog w) (ktrTop dp un gd cn cs L a ccd cl outer) (call (.ref f) args) Q E s :=
  C mean mg mb dp un gd cn cs a ccd cl outer A₀ base h₀ L m s Q E B F X N T hk hd hu ret
theorem ne_toldA {prog : Program} {w : World} {A : Around} {E : Value → Shared → Prop} {s : Shared} {Q : Value → Shared → Prop} {h₀ : Heap} {L a b : Addr} {news : List (Addr × Obj)} {x : Str} {k1 k2 : Tok} {v1 v2 : Value} (h : Q (.bool false) s) (N : News h₀ L s.heap news := by k_asm) (ha : (a, tupObj [.str x k1, v1]) ∈ news := by assumption) (hb : (b, tupObj [.str x k2, v2]) ∈ news := by assumption) (c1 : Cell v1 := by assumption) (c2 : Cell v2 := by assumption) (e : pd v1 = pd v2 := by assumption) (hx : PyData.canLay0 (.str x) = true := by assumption) (hu : A.units + 64 < cLine := by ktr_units) :
    wpAny (model prog w) A (compareOp .NotEq (.ref a) (.ref b)) Q E s := ne_told h N ha hb c1 c2 e hx hu
theorem fm (a : Int) {b : Int} (h : 0 < b) : 0 ≤ a.fmod b ∧ a.fmod b < b := ⟨Int.fmod_nonneg_of_pos a h, Int.fmod_lt_of_pos a h⟩
theorem getD3 {a b c d : Value} {k : Int} (h0 : 0 ≤ k) (h1 : k < 3) : [a, b, c].getD k.toNat d = a ∨ [a, b, c].getD k.toNat d = b ∨ [a, b, c].getD k.toNat d = c := by
  have h : k = 0 ∨ k = 1 ∨ k = 2 := by omega
  rcases h with rfl | rfl | rfl
  · exact .inl rfl
  · exact .inr (.inl rfl)
  · exact .inr (.inr rfl)
end
section
open PySem.Spec PyProof.V
def place (row src : List Value) (a e b : Int) : List Value := row.take a.toNat ++ (src.drop e.toNat).take ((e + b).toNat - e.toNat) ++ row.drop (a + b).toNat
theorem place_map {row src : List Value} {a e b : Int} (h0 : 0 ≤ a ∧ 0 ≤ b ∧ a + b ≤ row.length) (h : 0 ≤ e ∧ e + b ≤ src.length) :
    (List.range ((row.length : Int) - 0).toNat).map (fun (i : Nat) => if a ≤ 0 + (i : Int) ∧ 0 + (i : Int) < a + b then src.getD (e + (0 + (i : Int)) - a).toNat Value.none else row.getD (0 + (i : Int)).toNat Value.none) = place row src a e b := by
  obtain ⟨h0, h1, h2⟩ := h0
  obtain ⟨h3, h4⟩ := h
  obtain ⟨a, rfl⟩ := Int.eq_ofNat_of_zero_le h0
  obtain ⟨b, rfl⟩ := Int.eq_ofNat_of_zero_le h1
  obtain ⟨e, rfl⟩ := Int.eq_ofNat_of_zero_le h3
  unfold place
  apply List.ext_getElem?
  intro i
  simp only [Int.sub_zero, Int.toNat_natCast, Int.zero_add, ← Int.natCast_add, Nat.add_sub_cancel_left]
  by_cases hi : i < row.length
  · rw [List.getElem?_map, List.getElem?_range hi]
    simp only [Option.map_some]
    by_cases hc : a ≤ i ∧ i < a + b
    · rw [if_pos (by omega), List.getElem?_append_left (by simp only [List.length_append, List.length_take, List.length_drop]; omega), List.getElem?_append_right (by simp only [List.length_take]; omega)]
      rw [List.getElem?_take_of_lt (by simp only [List.length_take]; omega), List.getElem?_drop, List.getD_eq_getElem?_getD]
      have e1 : (((e + i : Nat) : Int) - (a : Int)).toNat = e + (i - (row.take a).length) := by simp only [List.length_take]; omega
      have e2 : e + (i - (row.take a).length) < src.length := by simp only [List.length_take]; omega
      rw [e1, List.getElem?_eq_getElem e2]; rfl
    · rw [if_neg (by omega), List.getD_eq_getElem?_getD, List.getElem?_eq_getElem hi]
      by_cases hl : i < a
      · rw [List.append_assoc, List.getElem?_append_left (by simp only [List.length_take]; omega), List.getElem?_take_of_lt hl, List.getElem?_eq_getElem hi]; rfl
      · rw [List.getElem?_append_right (by simp only [List.length_append, List.length_take, List.length_drop]; omega), List.getElem?_drop]
        have e1 : a + b + (i - (row.take a ++ (src.drop e).take b).length) = i := by simp only [List.length_append, List.length_take, List.length_drop]; omega
        rw [e1, List.getElem?_eq_getElem hi]; rfl
  · rw [List.getElem?_eq_none (by simp only [List.length_map, List.length_range]; omega), List.getElem?_eq_none (by simp only [List.length_append, List.length_take, List.length_drop]; omega)]
theorem place_len {row src : List Value} {a e b : Int} (h0 : 0 ≤ a ∧ 0 ≤ b ∧ a + b ≤ row.length) (h : 0 ≤ e ∧ e + b ≤ src.length) : (place row src a e b).length = row.length := by
  unfold place
  simp only [List.length_append, List.length_take, List.length_drop]
  omega
theorem place_cells {row src : List Value} {a e b : Int} (h : ∀ x ∈ row, Cell x) (h' : ∀ x ∈ src, Cell x) : ∀ x ∈ place row src a e b, Cell x := by
  intro x hx
  rcases List.mem_append.mp hx with hx | hx
  · rcases List.mem_append.mp hx with hx | hx
    · exact h x (List.mem_of_mem_take hx)
    · exact h' x (List.mem_of_mem_drop (List.mem_of_mem_take hx))
  · exact h x (List.mem_of_mem_drop hx)
theorem place_fill {row : List Value} {v : Value} {a b : Int} (h : b ≤ row.length) : place row (List.replicate row.length v) a 0 b = row.take a.toNat ++ List.replicate b.toNat v ++ row.drop (a + b).toNat := by
  unfold place
  rw [List.drop_replicate, List.take_replicate, Int.zero_add]
  have e : min (b.toNat - (0 : Int).toNat) (row.length - (0 : Int).toNat) = b.toNat := by
    have : (0 : Int).toNat = 0 := rfl
    omega
  rw [e]
theorem place_put {row : List Value} {v : Value} {a : Int} (h0 : 0 ≤ a) (h : a < row.length) : place row (List.replicate row.length v) a 0 1 = row.set a.toNat v := by
  rw [place_fill (by omega), List.set_eq_take_append_cons_drop, if_pos (by omega)]
  have e : (a + 1).toNat = a.toNat + 1 := by omega
  rw [e, List.append_assoc]; rfl
theorem grow_map {row : List Value} {v : Value} {b : Int} : row ++ (List.range (b - 0).toNat).map (fun _ => v) = row ++ List.replicate b.toNat v := by
  rw [Int.sub_zero]
  congr 1
  apply List.ext_getElem?
  intro i
  by_cases hi : i < b.toNat
  · rw [List.getElem?_map, List.getElem?_range hi, List.getElem?_replicate, if_pos hi]; rfl
  · rw [List.getElem?_eq_none (by simp only [List.length_map, List.length_range]; omega), List.getElem?_eq_none (by simp only [List.length_replicate]; omega)]
theorem cells_rep {n : Nat} {v : Value} (h : Cell v) : ∀ x ∈ List.replicate n v, Cell x := fun _ hx => List.eq_of_mem_replicate hx ▸ h
theorem cells_set {row : List Value} {n : Nat} {v : Value} (hr : ∀ x ∈ row, Cell x) (h : Cell v) : ∀ x ∈ row.set n v, Cell x := fun x hx => by
  rcases List.mem_or_eq_of_mem_set hx with hx | rfl
  · exact hr x hx
  · exact h
def TOut (msg : Str) (x : PyData) (after : List Value) (i : Addr) (news : List (Addr × Obj)) (r : Value) (n : List (Addr × Obj)) : Prop :=
  ∃ D k y c', r = .ref D ∧ (D, tupObj [.str msg k, y]) ∈ n ∧ Cell y ∧ pd y = x ∧ (i, listOf after.toArray c') ∈ n ∧ ∀ p ∈ news, p.1 ≠ i → p ∈ n
theorem telT_mono {w : World} {f : Addr} {dd uu : Nat} {args : List Value} {news : List (Addr × Obj)} {Out Out' : Value → List (Addr × Obj) → Prop} (C : TelT w f dd uu args news Out) (h : ∀ r n, Out r n → Out' r n) : TelT w f dd uu args news Out' :=
  fun mean mg mb dp un gd cn cs a ccd cl outer A₀ h₀ L m s Q E B F X N T hk hd hu ret => C mean mg mb dp un gd cn cs a ccd cl outer A₀ h₀ L m s Q E B F X N T hk hd hu fun r n h' tk' F' N' o => ret r n h' tk' F' N' (h r n o)
abbrev oob : Str := "out of bounds table access"
theorem told_ok {w : World} {f : Addr} {dd uu : Nat} {args : List Value} {news : List (Addr × Obj)} {Out : Value → List (Addr × Obj) → Prop} {v0 : Value} {x : PyData} {after : List Value} {i : Addr}
    (C : TelT w f dd uu args news (ToldO Out False v0 news)) (h : ∀ r n, Out r n → Cell r ∧ pd r = x ∧ (∃ c', (i, listOf after.toArray c') ∈ n) ∧ ∀ p ∈ news, p.1 ≠ i → p ∈ n) : TelT w f dd uu args news (TOut "" x after i news) :=
  telT_mono C fun r n o => by
    rcases o with ⟨D, k, r', n', o, e1, e2⟩ | ⟨o, _⟩
    · obtain ⟨a, b, ⟨c', c⟩, d⟩ := h r' n' o
      subst e2
      exact ⟨D, k, r', c', e1, .head _, a, b, .tail _ c, fun p hp hn => .tail _ (d p hp hn)⟩
    · exact o.elim
theorem told_bad {w : World} {f : Addr} {dd uu : Nat} {args : List Value} {news : List (Addr × Obj)} {k0 : Tok} {row : List Value} {i : Addr} {c : Nat}
    (C : TelT w f dd uu args news (ToldO (fun _ _ => False) True (.str oob k0) news)) (hi : (i, listOf row.toArray c) ∈ news) : TelT w f dd uu args news (TOut oob .none row i news) :=
  telT_mono C fun r n o => by
    rcases o with ⟨D, k, r', n', o, e1, e2⟩ | ⟨_, D, e1, e2⟩
    · exact o.elim
    · subst e2
      exact ⟨D, k0, .none, c, e1, .head _, .inl rfl, rfl, .tail _ hi, fun p hp _ => .tail _ hp⟩
/-- what a change of the one list leaves -/
theorem upd_out {news n : List (Addr × Obj)} {row after : List Value} {i : Addr} {c : Nat} {r : Value} (hi : (i, listOf row.toArray c) ∈ news) (h : r = .none ∧ ∃ c', n = updL i (listOf after.toArray c') news) :
    Cell r ∧ pd r = .none ∧ (∃ c', (i, listOf after.toArray c') ∈ n) ∧ ∀ p ∈ news, p.1 ≠ i → p ∈ n := by
  obtain ⟨rfl, c', rfl⟩ := h
  exact ⟨.inl rfl, rfl, ⟨c', updL_self hi⟩, fun p hp hn => updL_ne hp hn⟩
theorem upd_out2 {news n : List (Addr × Obj)} {row after : List Value} {i : Addr} {c : Nat} {r : Value} {z : Int} (hi : (i, listOf row.toArray c) ∈ news) (h : (∃ tk, r = .int z tk) ∧ ∃ c', n = updL i (listOf after.toArray c') news) :
    Cell r ∧ pd r = .int z ∧ (∃ c', (i, listOf after.toArray c') ∈ n) ∧ ∀ p ∈ news, p.1 ≠ i → p ∈ n := by
  obtain ⟨⟨tk, rfl⟩, c', rfl⟩ := h
  exact ⟨.inr ⟨_, _, rfl⟩, rfl, ⟨c', updL_self hi⟩, fun p hp hn => updL_ne hp hn⟩
theorem same_out2 {news n : List (Addr × Obj)} {row : List Value} {i : Addr} {c : Nat} {r : Value} {z : Int} (hi : (i, listOf row.toArray c) ∈ news) (h : (∃ tk, r = .int z tk) ∧ n = news) :
    Cell r ∧ pd r = .int z ∧ (∃ c', (i, listOf row.toArray c') ∈ n) ∧ ∀ p ∈ news, p.1 ≠ i → p ∈ n := by
  obtain ⟨⟨tk, rfl⟩, rfl⟩ := h
  exact ⟨.inr ⟨_, _, rfl⟩, rfl, ⟨c, hi⟩, fun p hp _ => hp⟩
theorem due_mono {msg : Str} {pv pv' : Value → Prop} {after after' : List Value} {ra : Addr} {news : List (Addr × Obj)} {r : Value} {n : List (Addr × Obj)} (h : DueO msg pv after ra news r n) (hp : ∀ y, pv y → pv' y) (ha : after = after') : DueO msg pv' after' ra news r n := by
  subst ha
  obtain ⟨D, D1, A, k, v, c', e, i1, i2, i3, i4⟩ := h
  exact ⟨D, D1, A, k, v, c', e, i1, i2, hp v i3, i4⟩
theorem lay_nil : PyData.canLay0 (.str ("" : Str)) = true := by decide +kernel
theorem lay_oob : PyData.canLay0 (.str oob) = true := by decide +kernel
theorem op7 {op : Int} (h0 : 0 ≤ op) (h7 : op < 7) : op = 0 ∨ op = 1 ∨ op = 2 ∨ op = 3 ∨ op = 4 ∨ op = 5 ∨ op = 6 := by omega
theorem op6 {op : Int} (h0 : 0 ≤ op) (h7 : op < 7) (h5 : op ≠ 5) : op = 0 ∨ op = 1 ∨ op = 2 ∨ op = 3 ∨ op = 4 ∨ op = 6 := by omega
theorem op5 {op : Int} (h0 : 0 ≤ op) (h7 : op < 7) (h5 : op ≠ 5) (h3 : op ≠ 3) : op = 0 ∨ op = 1 ∨ op = 2 ∨ op = 4 ∨ op = 6 := by omega
/-- what the table tells and what is due are one -/
theorem both {w : World} {op a e b lim el : Int} {to ta te tb tel : Tok} {v mo : Value} {row row' seg src : List Value}
    (h0 : 0 ≤ op) (h7 : op < 7) (hz : row.length ≤ 50) (hz' : row'.length ≤ 50) (hzs : seg.length ≤ 50) (hlim : LimIs mo el lim) (hel : el ≤ 50) (hlen : row.length ≤ lim)
    (cr : ∀ x ∈ row, Cell x) (cs : ∀ x ∈ src, Cell x) (cv : Cell v)
    (hb : op = 0 ∨ op = 3 → b = 1) (he : op ≠ 1 ∧ op ≠ 4 ∧ op ≠ 6 → e = 0)
    (s4 : op = 4 → src = seg) (s6 : op = 6 → src = row') (s2 : op = 0 ∨ op = 2 → src = List.replicate row.length v) (s1 : op = 1 ∨ op = 3 ∨ op = 5 → src = row) :
    ∃ (msg : Str) (x : PyData) (after : List Value), PyData.canLay0 (.str msg) = true ∧ (∀ y ∈ after, Cell y) ∧ after.length ≤ lim ∧
      (∀ {t d i t' d' i' : Addr} {k1 k2 k3 k4 k1' k2' k3' k4' : Tok} {kd kd' mo' el' sv : Value} {c c' : Nat} {news : List (Addr × Obj)},
        (t, instObj 159 d) ∈ news → (d, TDict w k1 k2 k3 k4 kd mo (.int el tel) i) ∈ news → (i, listOf row.toArray c) ∈ news →
        (t', instObj 159 d') ∈ news → (d', TDict w k1' k2' k3' k4' kd' mo' el' i') ∈ news → (i', listOf row'.toArray c') ∈ news →
        ((sv = .none ∧ seg = []) ∨ ∃ g cg, sv = .ref g ∧ (g, listOf seg.toArray cg) ∈ news ∧ i ≠ g) →
        TelT w 218 24 120 [.int op to, .ref t, .ref t', .int a ta, v, sv, .int e te, .int b tb] news (TOut msg x after i news)) ∧
      (∀ {ra sa : Addr} {c c2 : Nat} {tl : Tok} {news : List (Addr × Obj)}, (ra, listOf row.toArray c) ∈ news → (sa, listOf src.toArray c2) ∈ news →
        Tel w 211 20 90 [.int op to, .ref ra, .int a ta, v, .ref sa, .int e te, .int b tb, .int lim tl] news (DueO msg (fun y => Cell y ∧ pd y = x) after ra news)) := by
  have z4 : row.length ≤ 400 := Nat.le_trans hz (by decide)
  have z4' : row'.length ≤ 400 := Nat.le_trans hz' (by decide)
  have z1 : row.length ≤ 100 := Nat.le_trans hz (by decide)
  have hsl : src.length ≤ 50 := by
    have h := op7 h0 h7
    rcases h with h | h | h | h | h | h | h
    · rw [s2 (.inl h), List.length_replicate]; exact hz
    · rw [s1 (.inl h)]; exact hz
    · rw [s2 (.inr h), List.length_replicate]; exact hz
    · rw [s1 (.inr (.inl h))]; exact hz
    · rw [s4 h]; exact hzs
    · rw [s1 (.inr (.inr h))]; exact hz
    · rw [s6 h]; exact hz'
  have hlim50 : lim ≤ 50 := by
    rcases hlim with ⟨_, h⟩ | ⟨m, tm, _, h⟩
    · omega
    · omega
  by_cases h5 : op = 5
  · subst h5
    by_cases hg : 0 ≤ b ∧ row.length + b ≤ lim
    · refine ⟨"", .int row.length, row ++ List.replicate b.toNat v, lay_nil, ?_, ?_, ?_, ?_⟩
      · intro y hy
        rcases List.mem_append.mp hy with hy | hy
        · exact cr y hy
        · exact cells_rep cv y hy
      · rw [List.length_append, List.length_replicate]; omega
      · intro t d i t' d' i' k1 k2 k3 k4 k1' k2' k3' k4' kd kd' mo' el' sv c c' news ht hd hi ht' hd' hi' hsv
        refine told_ok (told_5 (k0 := 0) (msg := "") (ht := ht) (hd := hd) (hi := hi) (hz := z4) (telX_ok ?_ fun r n o => o)) fun r n o => upd_out2 hi o
        rcases hlim with ⟨hm, h⟩ | ⟨m, tm, hm, h⟩
        · exact grow_ok1 (ht := ht) (hd := hd) (hi := hi) (hz := z4) rfl hm (by omega) (by omega) (by omega)
        · exact grow_ok2 (ht := ht) (hd := hd) (hi := hi) (hz := z4) rfl hm (by omega) (by omega) (by omega) (by omega)
      · intro ra sa c c2 tl news hr hs
        exact tel_mono (due_grow hr z1 hg.1 (by omega) (by omega)) fun r n o => due_mono o (fun y hy => by obtain ⟨t, rfl⟩ := hy; exact ⟨.inr ⟨_, _, rfl⟩, rfl⟩) grow_map
    · refine ⟨"", .int 4294967295, row, lay_nil, cr, hlen, ?_, ?_⟩
      · intro t d i t' d' i' k1 k2 k3 k4 k1' k2' k3' k4' kd kd' mo' el' sv c c' news ht hd hi ht' hd' hi' hsv
        refine told_ok (told_5 (k0 := 0) (msg := "") (ht := ht) (hd := hd) (hi := hi) (hz := z4) (telX_ok ?_ fun r n o => o)) fun r n o => same_out2 hi o
        rcases hlim with ⟨hm, h⟩ | ⟨m, tm, hm, h⟩
        · exact grow_bad1 (ht := ht) (hd := hd) (hi := hi) (hz := z4) rfl hm (by omega)
        · exact grow_bad2 (ht := ht) (hd := hd) (hi := hi) (hz := z4) rfl hm (by omega)
      · intro ra sa c c2 tl news hr hs
        by_cases hb0 : b < 0
        · exact tel_mono (due_full1 hr z1 hb0) fun r n o => due_mono o (fun y hy => by obtain ⟨t, rfl⟩ := hy; exact ⟨.inr ⟨_, _, rfl⟩, rfl⟩) rfl
        · exact tel_mono (due_full2 hr z1 (by omega) (by omega)) fun r n o => due_mono o (fun y hy => by obtain ⟨t, rfl⟩ := hy; exact ⟨.inr ⟨_, _, rfl⟩, rfl⟩) rfl
  · by_cases ho1 : 0 ≤ a ∧ 0 ≤ b ∧ a + b ≤ row.length
    · by_cases ho2 : 0 ≤ e ∧ e + b ≤ src.length
      · by_cases h3 : op = 3
        · subst h3
          obtain rfl := hb (.inr rfl)
          obtain ⟨x, hx⟩ : ∃ x, row[a.toNat]? = some x := ⟨_, List.getElem?_eq_getElem (by omega)⟩
          have cx : Cell x := cr x (List.mem_of_getElem? hx)
          refine ⟨"", pd x, row, lay_nil, cr, hlen, ?_, ?_⟩
          · intro t d i t' d' i' k1 k2 k3 k4 k1' k2' k3' k4' kd kd' mo' el' sv c c' news ht hd hi ht' hd' hi' hsv
            refine told_ok (told_3 (k0 := 0) (msg := "") (ht := ht) (hd := hd) (hi := hi) (hz := z4) (telX_ok (get_ok (ht := ht) (hd := hd) (hi := hi) (hz := z4) (by omega) (by omega) hx) fun r n o => o)) fun r n o => ?_
            obtain ⟨rfl, rfl⟩ := o
            exact ⟨cx, rfl, ⟨c, hi⟩, fun p hp _ => hp⟩
          · intro ra sa c c2 tl news hr hs
            exact tel_mono (due_get hr hs z1 (Nat.le_trans hsl (by decide)) ho1 ho2 hx) fun r n o => due_mono o (fun y hy => by subst hy; exact ⟨cx, rfl⟩) rfl
        · refine ⟨"", .none, place row src a e b, lay_nil, place_cells cr cs, by rw [place_len ho1 ho2]; exact hlen, ?_, ?_⟩
          · intro t d i t' d' i' k1 k2 k3 k4 k1' k2' k3' k4' kd kd' mo' el' sv c c' news ht hd hi ht' hd' hi' hsv
            have h := op5 h0 h7 h5 h3
            rcases h with h | h | h | h | h <;> subst h
            · obtain rfl := hb (.inl rfl)
              obtain rfl := he (by decide)
              rw [s2 (.inl rfl), place_put (by omega) (by omega)]
              exact told_ok (told_0 (k0 := 0) (msg := "") (ht := ht) (hd := hd) (hi := hi) (hz := z4) (telX_ok (put_ok (ht := ht) (hd := hd) (hi := hi) (hz := z4) (by omega) (by omega)) fun r n o => o)) fun r n o => upd_out hi o
            · rw [s1 (.inl rfl)] at ho2 ⊢
              exact told_ok (told_1 (k0 := 0) (msg := "") (ht := ht) (hd := hd) (hi := hi) (hz := z4) (telX_ok (copy_ok (ht := ht) (hd := hd) (hi := hi) (hz := z4) (ht' := ht) (hd' := hd) (hi' := hi) (hz' := z4) (by omega) (by omega) (by omega) (by omega) (by omega)) fun r n o => o)) fun r n o => upd_out hi o
            · obtain rfl := he (by decide)
              rw [s2 (.inr rfl), place_fill (by omega)]
              exact told_ok (told_2 (k0 := 0) (msg := "") (ht := ht) (hd := hd) (hi := hi) (hz := z4) (telX_ok (fill_ok (ht := ht) (hd := hd) (hi := hi) (hz := z4) (by omega) (by omega) (by omega) (by omega)) fun r n o => o)) fun r n o => upd_out hi o
            · rw [s4 rfl] at ho2 ⊢
              rcases hsv with ⟨rfl, rfl⟩ | ⟨g, cg, rfl, hg, hne⟩
              · exact told_ok (told_4 (k0 := 0) (msg := "") (ht := ht) (hd := hd) (hi := hi) (hz := z4) (telX_ok (init_none_ok (ht := ht) (hd := hd) (hi := hi) (hz := z4) (by omega) (by omega) (by omega) (by omega) (by simpa using ho2.2)) fun r n o => o)) fun r n o => upd_out hi o
              · exact told_ok (told_4 (k0 := 0) (msg := "") (ht := ht) (hd := hd) (hi := hi) (hz := z4) (telX_ok (init_ok (ht := ht) (hd := hd) (hi := hi) (hz := z4) hg (by omega) hne (by omega) (by omega) (by omega) (by omega) (by omega)) fun r n o => o)) fun r n o => upd_out hi o
            · rw [s6 rfl] at ho2 ⊢
              exact told_ok (told_6 (k0 := 0) (msg := "") (ht := ht) (hd := hd) (hi := hi) (hz := z4) (telX_ok (copy_ok (ht := ht) (hd := hd) (hi := hi) (hz := z4) (ht' := ht') (hd' := hd') (hi' := hi') (hz' := z4') (by omega) (by omega) (by omega) (by omega) (by omega)) fun r n o => o)) fun r n o => upd_out hi o
          · intro ra sa c c2 tl news hr hs
            exact tel_mono (due_place h5 h3 hr hs z1 (Nat.le_trans hsl (by decide)) ho1 ho2) fun r n o => due_mono o (fun y hy => by subst hy; exact ⟨.inl rfl, rfl⟩) (place_map ho1 ho2)
      · refine ⟨oob, .none, row, lay_oob, cr, hlen, ?_, ?_⟩
        · intro t d i t' d' i' k1 k2 k3 k4 k1' k2' k3' k4' kd kd' mo' el' sv c c' news ht hd hi ht' hd' hi' hsv
          have h := op6 h0 h7 h5
          rcases h with h | h | h | h | h | h <;> subst h
          · obtain rfl := hb (.inl rfl)
            obtain rfl := he (by decide)
            rw [s2 (.inl rfl), List.length_replicate] at ho2
            exfalso; omega
          · rw [s1 (.inl rfl)] at ho2
            exact told_bad (told_1 (ht := ht) (hd := hd) (hi := hi) (hz := z4) (telX_bad (copy_bad1 (ht := ht) (hd := hd) (hi := hi) (hz := z4) (ht' := ht) (hd' := hd) (hi' := hi) (hz' := z4) (fun h => ho2 h.2)) trivial)) hi
          · obtain rfl := he (by decide)
            rw [s2 (.inr rfl), List.length_replicate] at ho2
            exfalso; omega
          · obtain rfl := hb (.inr rfl)
            obtain rfl := he (by decide)
            rw [s1 (.inr (.inl rfl))] at ho2
            exfalso; omega
          · rw [s4 rfl] at ho2
            rcases hsv with ⟨rfl, rfl⟩ | ⟨g, cg, rfl, hg, hne⟩
            · exact told_bad (told_4 (ht := ht) (hd := hd) (hi := hi) (hz := z4) (telX_bad (init_none_bad1 (ht := ht) (hd := hd) (hi := hi) (hz := z4) (fun h => ho2 h.2)) trivial)) hi
            · exact told_bad (told_4 (ht := ht) (hd := hd) (hi := hi) (hz := z4) (telX_bad (init_bad1 (ht := ht) (hd := hd) (hi := hi) (hz := z4) hg (Nat.le_trans hzs (by decide)) (fun h => ho2 h.2)) trivial)) hi
          · rw [s6 rfl] at ho2
            exact told_bad (told_6 (ht := ht) (hd := hd) (hi := hi) (hz := z4) (telX_bad (copy_bad1 (ht := ht) (hd := hd) (hi := hi) (hz := z4) (ht' := ht') (hd' := hd') (hi' := hi') (hz' := z4') (fun h => ho2 h.2)) trivial)) hi
        · intro ra sa c c2 tl news hr hs
          exact tel_mono (due_trap2 h5 hr hs z1 (Nat.le_trans hsl (by decide)) ho1 ho2) fun r n o => due_mono o (fun y hy => by subst hy; exact ⟨.inl rfl, rfl⟩) rfl
    · refine ⟨oob, .none, row, lay_oob, cr, hlen, ?_, ?_⟩
      · intro t d i t' d' i' k1 k2 k3 k4 k1' k2' k3' k4' kd kd' mo' el' sv c c' news ht hd hi ht' hd' hi' hsv
        have h := op6 h0 h7 h5
        rcases h with h | h | h | h | h | h <;> subst h
        · obtain rfl := hb (.inl rfl)
          exact told_bad (told_0 (ht := ht) (hd := hd) (hi := hi) (hz := z4) (telX_bad (put_bad (ht := ht) (hd := hd) (hi := hi) (hz := z4) (by omega)) trivial)) hi
        · by_cases hc : 0 ≤ b ∧ 0 ≤ e ∧ e + b ≤ row.length
          · exact told_bad (told_1 (ht := ht) (hd := hd) (hi := hi) (hz := z4) (telX_bad (copy_bad2 (ht := ht) (hd := hd) (hi := hi) (hz := z4) (ht' := ht) (hd' := hd) (hi' := hi) (hz' := z4) hc (fun h => ho1 ⟨h.1, hc.1, h.2⟩)) trivial)) hi
          · exact told_bad (told_1 (ht := ht) (hd := hd) (hi := hi) (hz := z4) (telX_bad (copy_bad1 (ht := ht) (hd := hd) (hi := hi) (hz := z4) (ht' := ht) (hd' := hd) (hi' := hi) (hz' := z4) hc) trivial)) hi
        · exact told_bad (told_2 (ht := ht) (hd := hd) (hi := hi) (hz := z4) (telX_bad (fill_bad (ht := ht) (hd := hd) (hi := hi) (hz := z4) ho1) trivial)) hi
        · obtain rfl := hb (.inr rfl)
          exact told_bad (told_3 (ht := ht) (hd := hd) (hi := hi) (hz := z4) (telX_bad (get_bad (ht := ht) (hd := hd) (hi := hi) (hz := z4) (by omega)) trivial)) hi
        · rcases hsv with ⟨rfl, rfl⟩ | ⟨g, cg, rfl, hg, hne⟩
          · by_cases hc : 0 ≤ b ∧ 0 ≤ e ∧ e + b ≤ 0
            · exact told_bad (told_4 (ht := ht) (hd := hd) (hi := hi) (hz := z4) (telX_bad (init_none_bad2 (ht := ht) (hd := hd) (hi := hi) (hz := z4) hc (fun h => ho1 ⟨h.1, hc.1, h.2⟩)) trivial)) hi
            · exact told_bad (told_4 (ht := ht) (hd := hd) (hi := hi) (hz := z4) (telX_bad (init_none_bad1 (ht := ht) (hd := hd) (hi := hi) (hz := z4) hc) trivial)) hi
          · by_cases hc : 0 ≤ b ∧ 0 ≤ e ∧ e + b ≤ seg.length
            · exact told_bad (told_4 (ht := ht) (hd := hd) (hi := hi) (hz := z4) (telX_bad (init_bad2 (ht := ht) (hd := hd) (hi := hi) (hz := z4) hg (by omega) hc (fun h => ho1 ⟨h.1, hc.1, h.2⟩)) trivial)) hi
            · exact told_bad (told_4 (ht := ht) (hd := hd) (hi := hi) (hz := z4) (telX_bad (init_bad1 (ht := ht) (hd := hd) (hi := hi) (hz := z4) hg (by omega) hc) trivial)) hi
        · by_cases hc : 0 ≤ b ∧ 0 ≤ e ∧ e + b ≤ row'.length
          · exact told_bad (told_6 (ht := ht) (hd := hd) (hi := hi) (hz := z4) (telX_bad (copy_bad2 (ht := ht) (hd := hd) (hi := hi) (hz := z4) (ht' := ht') (hd' := hd') (hi' := hi') (hz' := z4') hc (fun h => ho1 ⟨h.1, hc.1, h.2⟩)) trivial)) hi
          · exact told_bad (told_6 (ht := ht) (hd := hd) (hi := hi) (hz := z4) (telX_bad (copy_bad1 (ht := ht) (hd := hd) (hi := hi) (hz := z4) (ht' := ht') (hd' := hd') (hi' := hi') (hz' := z4') hc) trivial)) hi
      · intro ra sa c c2 tl news hr hs
        exact tel_mono (due_trap1 h5 hr hs z1 (Nat.le_trans hsl (by decide)) ho1) fun r n o => due_mono o (fun y hy => by subst hy; exact ⟨.inl rfl, rfl⟩) rfl
end
local macro_rules | `(tactic| walk_at "eval Call") => `(tactic| (refine Call_ ?_; (try dsimp only)))
local macro_rules | `(tactic| walk_at "eval Name") => `(tactic| (k_here; k_dflt (refine' nameX_L ?F ?v ?_ ?a ?b; (case F => k_asm); (case a => rfl); (case b => rfl); (case v => assumption); k_whole); (try dsimp only)))
section
open PySem.Spec PyProof.V
section
local macro_rules | `(tactic| walk_at "call ref") => `(tactic| (k_here; k_dflt (show wpAny _ _ (call (Value.ref 192) _) _ _ _); k_dflt (refine' digit_call (fun x' h' tk' t' F' N' => ?_)); (try dsimp only)))
theorem turn_0 {w : World} {l : Addr} {ns : List Int} {c1 c2 c3 c4 c5 c6 c7 : Addr} {m : Str → Option Value} {news : List (Addr × Obj)} {k : Int} {tk : Tok} (hs : m "script" = some (.ref l)) (hk : m "k" = some (.int k tk)) (h0 : 0 ≤ k) (h1 : k < 15) :
    Blk w l ns (LC c1 c2 c3 c4 c5 c6 c7) (stAt turnBody 0) m news (fun m' n' => ∃ x t, m' = setL "digit" (.int x t) m ∧ n' = news) := by
  refine' blk_lit ?e ?_
  case e => exact rfl
  unfold Blk
  intro vs mean mg mb dp un gd a ccd outer A₀ h₀ L s Q E B F X N T hl hI hlen hdp hun hret
  revert X; k_fill; intro X
  repeat' (first | (k_unfold; (try dsimp only)) | (k_end; wrow_close) | (walk1; (all_goals (try dsimp only))) | (dsimp only; walk1) | fail "no step")
  all_goals exact hret _ _ _ _ (by k_asm) (by first | k_asm | exact news_sub (by assumption) (fun p hp => by first | exact hp | exact sub_drop2 p hp | exact sub_drop3 p hp | exact .tail _ hp | exact .tail _ (.tail _ hp) | exact .tail _ (.tail _ (.tail _ hp)) | exact .tail _ (.tail _ (.tail _ (.tail _ hp))))) ⟨_, _, rfl, rfl⟩
theorem turn_1 {w : World} {l : Addr} {ns : List Int} {c1 c2 c3 c4 c5 c6 c7 : Addr} {m : Str → Option Value} {news : List (Addr × Obj)} {k : Int} {tk : Tok} (hs : m "script" = some (.ref l)) (hk : m "k" = some (.int k tk)) (h0 : 0 ≤ k) (h1 : k < 15) :
    Blk w l ns (LC c1 c2 c3 c4 c5 c6 c7) (stAt turnBody 1) m news (fun m' n' => ∃ x t, m' = setL "number" (.int x t) m ∧ n' = news) := by
  refine' blk_lit ?e ?_
  case e => exact rfl
  unfold Blk
  intro vs mean mg mb dp un gd a ccd outer A₀ h₀ L s Q E B F X N T hl hI hlen hdp hun hret
  revert X; k_fill; intro X
  repeat' (first | (k_unfold; (try dsimp only)) | (k_end; wrow_close) | (walk1; (all_goals (try dsimp only))) | (dsimp only; walk1) | fail "no step")
  all_goals exact hret _ _ _ _ (by k_asm) (by first | k_asm | exact news_sub (by assumption) (fun p hp => by first | exact hp | exact sub_drop2 p hp | exact sub_drop3 p hp | exact .tail _ hp | exact .tail _ (.tail _ hp) | exact .tail _ (.tail _ (.tail _ hp)) | exact .tail _ (.tail _ (.tail _ (.tail _ hp))))) ⟨_, _, rfl, rfl⟩
theorem turn_2 {w : World} {l : Addr} {ns : List Int} {c1 c2 c3 c4 c5 c6 c7 : Addr} {m : Str → Option Value} {news : List (Addr × Obj)} {k : Int} {tk : Tok} (hs : m "script" = some (.ref l)) (hk : m "k" = some (.int k tk)) (h0 : 0 ≤ k) (h1 : k < 15) :
    Blk w l ns (LC c1 c2 c3 c4 c5 c6 c7) (stAt turnBody 2) m news (fun m' n' => ∃ x t, m' = setL "length" (.int x t) m ∧ n' = news) := by
  refine' blk_lit ?e ?_
  case e => exact rfl
  unfold Blk
  intro vs mean mg mb dp un gd a ccd outer A₀ h₀ L s Q E B F X N T hl hI hlen hdp hun hret
  revert X; k_fill; intro X
  repeat' (first | (k_unfold; (try dsimp only)) | (k_end; wrow_close) | (walk1; (all_goals (try dsimp only))) | (dsimp only; walk1) | fail "no step")
  all_goals exact hret _ _ _ _ (by k_asm) (by first | k_asm | exact news_sub (by assumption) (fun p hp => by first | exact hp | exact sub_drop2 p hp | exact sub_drop3 p hp | exact .tail _ hp | exact .tail _ (.tail _ hp) | exact .tail _ (.tail _ (.tail _ hp)) | exact .tail _ (.tail _ (.tail _ (.tail _ hp))))) ⟨_, _, rfl, rfl⟩
end
theorem turn_3 {w : World} {l : Addr} {ns : List Int} {c1 c2 c3 c4 c5 c6 c7 : Addr} {m : Str → Option Value} {news : List (Addr × Obj)} {k d : Int} {tk td : Tok} (hk : m "k" = some (.int k tk)) (hd : m "digit" = some (.int d td)) :
    Blk w l ns (LC c1 c2 c3 c4 c5 c6 c7) (stAt turnBody 3) m news (fun m' n' => ∃ x t, m' = setL "op" (.int x t) m ∧ n' = news ∧ 0 ≤ x ∧ x < 7) := by
  refine' blk_lit ?e ?_
  case e => exact rfl
  unfold Blk
  intro vs mean mg mb dp un gd a ccd outer A₀ h₀ L s Q E B F X N T hl hI hlen hdp hun hret
  revert X; k_fill; intro X
  repeat' (first | (k_unfold; (try dsimp only)) | (k_end; wrow_close) | (walk1; (all_goals (try dsimp only))) | (dsimp only; walk1) | fail "no step")
  all_goals exact hret _ _ _ _ (by k_asm) (by first | k_asm | exact news_sub (by assumption) (fun p hp => by first | exact hp | exact sub_drop2 p hp | exact sub_drop3 p hp | exact .tail _ hp | exact .tail _ (.tail _ hp) | exact .tail _ (.tail _ (.tail _ hp)) | exact .tail _ (.tail _ (.tail _ (.tail _ hp))))) ⟨_, _, rfl, rfl, fm _ (by decide)⟩
theorem turn_4 {w : World} {l : Addr} {ns : List Int} {c1 c2 c3 c4 c5 c6 c7 : Addr} {m : Str → Option Value} {news : List (Addr × Obj)} {k d : Int} {tk td : Tok} (hk : m "k" = some (.int k tk)) (hd : m "digit" = some (.int d td)) :
    Blk w l ns (LC c1 c2 c3 c4 c5 c6 c7) (stAt turnBody 4) m news (fun m' n' => ∃ x t, m' = setL "which" (.int x t) m ∧ n' = news ∧ 0 ≤ x ∧ x < 2) := by
  refine' blk_lit ?e ?_
  case e => exact rfl
  unfold Blk
  intro vs mean mg mb dp un gd a ccd outer A₀ h₀ L s Q E B F X N T hl hI hlen hdp hun hret
  revert X; k_fill; intro X
  repeat' (first | (k_unfold; (try dsimp only)) | (k_end; wrow_close) | (walk1; (all_goals (try dsimp only))) | (dsimp only; walk1) | fail "no step")
  all_goals exact hret _ _ _ _ (by k_asm) (by first | k_asm | exact news_sub (by assumption) (fun p hp => by first | exact hp | exact sub_drop2 p hp | exact sub_drop3 p hp | exact .tail _ hp | exact .tail _ (.tail _ hp) | exact .tail _ (.tail _ (.tail _ hp)) | exact .tail _ (.tail _ (.tail _ (.tail _ hp))))) ⟨_, _, rfl, rfl, fm _ (by decide)⟩
theorem turn_5 {w : World} {l : Addr} {ns : List Int} {c1 c2 c3 c4 c5 c6 c7 : Addr} {m : Str → Option Value} {news : List (Addr × Obj)} {j : Int} {tj : Tok} {R : Addr} {cR : Nat} {rs : List Value} {v : Value} (hr : m "rows" = some (.ref R)) (hj : m "which" = some (.int j tj)) (hR : (R, listOf rs.toArray cR) ∈ news) (h0 : 0 ≤ j) (h1 : j < 2) (hx : rs[j.toNat]? = some v) :
    Blk w l ns (LC c1 c2 c3 c4 c5 c6 c7) (stAt turnBody 5) m news (fun m' n' => m' = setL "row" v m ∧ n' = news) := by
  refine' blk_lit ?e ?_
  case e => exact rfl
  unfold Blk
  intro vs mean mg mb dp un gd a ccd outer A₀ h₀ L s Q E B F X N T hl hI hlen hdp hun hret
  revert X; k_fill; intro X
  repeat' (first | (k_unfold; (try dsimp only)) | (k_end; wrow_close) | (walk1; (all_goals (try dsimp only))) | (dsimp only; walk1) | fail "no step")
  all_goals exact hret _ _ _ _ (by k_asm) (by first | k_asm | exact news_sub (by assumption) (fun p hp => by first | exact hp | exact sub_drop2 p hp | exact sub_drop3 p hp | exact .tail _ hp | exact .tail _ (.tail _ hp) | exact .tail _ (.tail _ (.tail _ hp)) | exact .tail _ (.tail _ (.tail _ (.tail _ hp))))) ⟨rfl, rfl⟩
section
local macro_rules | `(tactic| walk_at "subscriptTail") => `(tactic| (k_here; (with_reducible show wpAny _ _ (subscriptTail _ _ (Value.ref _) (Value.int _ _)) _ _ _); k_dflt (refine' lst_getD ?_); (try dsimp only)))
theorem turn_6 {w : World} {l : Addr} {ns : List Int} {c1 c2 c3 c4 c5 c6 c7 : Addr} {m : Str → Option Value} {news : List (Addr × Obj)} {d : Int} {td : Tok} {R : Addr} {cR : Nat} {v0 v1 v2 : Value} (hr : m "segments" = some (.ref R)) (hd : m "digit" = some (.int d td)) (hR : (R, listOf [v0, v1, v2].toArray cR) ∈ news) :
    Blk w l ns (LC c1 c2 c3 c4 c5 c6 c7) (stAt turnBody 6) m news (fun m' n' => ∃ v, m' = setL "segment" v m ∧ n' = news ∧ (v = v0 ∨ v = v1 ∨ v = v2)) := by
  refine' blk_lit ?e ?_
  case e => exact rfl
  unfold Blk
  intro vs mean mg mb dp un gd a ccd outer A₀ h₀ L s Q E B F X N T hl hI hlen hdp hun hret
  revert X; k_fill; intro X
  obtain ⟨f0, f1⟩ := fm (d.fdiv 14) (b := 3) (by decide)
  have f2 : [v0, v1, v2].length = 3 := rfl
  repeat' (first | (k_unfold; (try dsimp only)) | (k_end; wrow_close) | (walk1; (all_goals (try dsimp only))) | (dsimp only; walk1) | fail "no step")
  all_goals exact hret _ _ _ _ (by k_asm) (by first | k_asm | exact news_sub (by assumption) (fun p hp => by first | exact hp | exact sub_drop2 p hp | exact sub_drop3 p hp | exact .tail _ hp | exact .tail _ (.tail _ hp) | exact .tail _ (.tail _ (.tail _ hp)) | exact .tail _ (.tail _ (.tail _ (.tail _ hp))))) ⟨[v0, v1, v2].getD ((d.fdiv 14).fmod 3).toNat .none, rfl, rfl, getD3 f0 f1⟩
end
theorem turn_7 {w : World} {l : Addr} {ns : List Int} {c1 c2 c3 c4 c5 c6 c7 : Addr} {m : Str → Option Value} {news : List (Addr × Obj)} {k d : Int} {tk td : Tok} (hk : m "k" = some (.int k tk)) (hd : m "number" = some (.int d td)) :
    Blk w l ns (LC c1 c2 c3 c4 c5 c6 c7) (stAt turnBody 7) m news (fun m' n' => ∃ v, m' = setL "value" v m ∧ n' = news ∧ Cell v) := by
  refine' blk_lit ?e ?_
  case e => exact rfl
  unfold Blk
  intro vs mean mg mb dp un gd a ccd outer A₀ h₀ L s Q E B F X N T hl hI hlen hdp hun hret
  revert X; k_fill; intro X
  repeat' (first | (k_unfold; (try dsimp only)) | (k_end; wrow_close) | (walk1; (all_goals (try dsimp only))) | (dsimp only; walk1) | fail "no step")
  all_goals first | exact hret _ _ _ _ (by k_asm) (by first | k_asm | exact news_sub (by assumption) (fun p hp => by first | exact hp | exact sub_drop2 p hp | exact sub_drop3 p hp | exact .tail _ hp | exact .tail _ (.tail _ hp) | exact .tail _ (.tail _ (.tail _ hp)) | exact .tail _ (.tail _ (.tail _ (.tail _ hp))))) ⟨_, rfl, rfl, .inl rfl⟩ | exact hret _ _ _ _ (by k_asm) (by first | k_asm | exact news_sub (by assumption) (fun p hp => by first | exact hp | exact sub_drop2 p hp | exact sub_drop3 p hp | exact .tail _ hp | exact .tail _ (.tail _ hp) | exact .tail _ (.tail _ (.tail _ hp)) | exact .tail _ (.tail _ (.tail _ (.tail _ hp))))) ⟨_, rfl, rfl, .inr ⟨_, _, rfl⟩⟩
local macro_rules | `(tactic| walk_at "call ref") => `(tactic| (k_here; k_dflt (show wpAny _ _ (call (Value.ref 199) _) _ _ _); k_dflt (refine' tel_use (C := operand_tel _ _ _ _ _ _ _ _ ?hc) (ret := ?_); (case hc => omega)); intro r9 n9 h' tk' F' N' hO; obtain ⟨⟨t9, e1⟩, e2⟩ := hO; subst e1; subst e2; (try dsimp only)))
theorem turn_8 {w : World} {l : Addr} {ns : List Int} {c1 c2 c3 c4 c5 c6 c7 : Addr} {m : Str → Option Value} {news : List (Addr × Obj)} {d o : Int} {to td : Tok} (hd : m "length" = some (.int d td)) (ho : m "op" = some (.int o to)) :
    Blk w l ns (LC c1 c2 c3 c4 c5 c6 c7) (stAt turnBody 8) m news (fun m' n' => ∃ x t, m' = setL "many" (.int x t) m ∧ n' = news ∧ (o = 0 ∨ o = 3 → x = 1)) := by
  refine' blk_lit ?e ?_
  case e => exact rfl
  unfold Blk
  intro vs mean mg mb dp un gd a ccd outer A₀ h₀ L s Q E B F X N T hl hI hlen hdp hun hret
  revert X; k_fill; intro X
  repeat' (first | (k_unfold; (try dsimp only)) | (k_end; wrow_close) | (walk1; (all_goals (try dsimp only))) | (dsimp only; walk1) | fail "no step")
  all_goals first | exact hret _ _ _ _ (by k_asm) (by first | k_asm | exact news_sub (by assumption) (fun p hp => by first | exact hp | exact sub_drop2 p hp | exact sub_drop3 p hp | exact .tail _ hp | exact .tail _ (.tail _ hp) | exact .tail _ (.tail _ (.tail _ hp)) | exact .tail _ (.tail _ (.tail _ (.tail _ hp))))) ⟨1, _, rfl, rfl, fun _ => rfl⟩ | exact hret _ _ _ _ (by k_asm) (by first | k_asm | exact news_sub (by assumption) (fun p hp => by first | exact hp | exact sub_drop2 p hp | exact sub_drop3 p hp | exact .tail _ hp | exact .tail _ (.tail _ hp) | exact .tail _ (.tail _ (.tail _ hp)) | exact .tail _ (.tail _ (.tail _ (.tail _ hp))))) ⟨_, _, rfl, rfl, fun h => by exfalso; rename (List.any [0, 3] _ = false) => h9; rcases h with rfl | rfl <;> exact absurd h9 (by decide)⟩
section
local macro_rules | `(tactic| walk_at "call ref") => `(tactic| (k_here; k_dflt (show wpAny _ _ (call (Value.ref 192) _) _ _ _); k_dflt (refine' digit_call (fun x' h' tk' t' F' N' => ?_)); (try dsimp only)))
theorem turn_9 {w : World} {l : Addr} {ns : List Int} {c1 c2 c3 c4 c5 c6 c7 : Addr} {m : Str → Option Value} {news : List (Addr × Obj)} {k : Int} {tk : Tok} {r : Addr} {row : List Value} {cr : Nat} (hs : m "script" = some (.ref l)) (hk : m "k" = some (.int k tk)) (h0 : 0 ≤ k) (h1 : k < 15) (hr : m "row" = some (.ref r)) (hrow : (r, listOf row.toArray cr) ∈ news) (hz : row.length ≤ 100) :
    Blk w l ns (LC c1 c2 c3 c4 c5 c6 c7) (stAt turnBody 9) m news (fun m' n' => ∃ x t, m' = setL "to" (.int x t) m ∧ n' = news) := by
  refine' blk_lit ?e ?_
  case e => exact rfl
  unfold Blk
  intro vs mean mg mb dp un gd a ccd outer A₀ h₀ L s Q E B F X N T hl hI hlen hdp hun hret
  revert X; k_fill; intro X
  repeat' (first | (k_unfold; (try dsimp only)) | (k_end; wrow_close) | (walk1; (all_goals (try dsimp only))) | (dsimp only; walk1) | fail "no step")
  all_goals exact hret _ _ _ _ (by k_asm) (by first | k_asm | exact news_sub (by assumption) (fun p hp => by first | exact hp | exact sub_drop2 p hp | exact sub_drop3 p hp | exact .tail _ hp | exact .tail _ (.tail _ hp) | exact .tail _ (.tail _ (.tail _ hp)) | exact .tail _ (.tail _ (.tail _ (.tail _ hp))))) ⟨_, _, rfl, rfl⟩
end
theorem turn_11 {w : World} {l : Addr} {ns : List Int} {c1 c2 c3 c4 c5 c6 c7 : Addr} {m : Str → Option Value} {news : List (Addr × Obj)} {d o : Int} {to td : Tok} {r : Addr} {src : List Value} {cr : Nat} (hd : m "number" = some (.int d td)) (ho : m "op" = some (.int o to)) (hr : m "source" = some (.ref r)) (hrow : (r, listOf src.toArray cr) ∈ news) (hz : src.length ≤ 100) :
    Blk w l ns (LC c1 c2 c3 c4 c5 c6 c7) (stAt turnBody 11) m news (fun m' n' => ∃ x t, m' = setL "begin" (.int x t) m ∧ n' = news ∧ (o ≠ 1 ∧ o ≠ 4 ∧ o ≠ 6 → x = 0)) := by
  refine' blk_lit ?e ?_
  case e => exact rfl
  unfold Blk
  intro vs mean mg mb dp un gd a ccd outer A₀ h₀ L s Q E B F X N T hl hI hlen hdp hun hret
  revert X; k_fill; intro X
  repeat' (first | (k_unfold; (try dsimp only)) | (k_end; wrow_close) | (walk1; (all_goals (try dsimp only))) | (dsimp only; walk1) | fail "no step")
  all_goals first | exact hret _ _ _ _ (by k_asm) (by first | k_asm | exact news_sub (by assumption) (fun p hp => by first | exact hp | exact sub_drop2 p hp | exact sub_drop3 p hp | exact .tail _ hp | exact .tail _ (.tail _ hp) | exact .tail _ (.tail _ (.tail _ hp)) | exact .tail _ (.tail _ (.tail _ (.tail _ hp))))) ⟨0, _, rfl, rfl, fun _ => rfl⟩ | exact hret _ _ _ _ (by k_asm) (by first | k_asm | exact news_sub (by assumption) (fun p hp => by first | exact hp | exact sub_drop2 p hp | exact sub_drop3 p hp | exact .tail _ hp | exact .tail _ (.tail _ hp) | exact .tail _ (.tail _ (.tail _ hp)) | exact .tail _ (.tail _ (.tail _ (.tail _ hp))))) ⟨_, _, rfl, rfl, fun h => by exfalso; rename (List.any [1, 4, 6] _ = true) => h9; simp at h9; omega⟩
section
local macro_rules | `(tactic| walk_at "subscriptTail") => `(tactic| (k_here; (with_reducible show wpAny _ _ (subscriptTail _ _ (Value.ref _) (Value.int _ _)) _ _ _); k_dflt (refine' lst_get ?_); (try dsimp only)))
local macro_rules | `(tactic| walk_at "call ref") => `(tactic| (k_here; k_dflt (show wpAny _ _ (call (Value.ref 225) _) _ _ _); k_dflt (refine' telA_use ?_); intro r9 n9 h' tk' F' N' hO; (try dsimp only)))
theorem turn_10 {w : World} {l : Addr} {ns : List Int} {c1 c2 c3 c4 c5 c6 c7 : Addr} {m : Str → Option Value} {news : List (Addr × Obj)} {o j : Int} {to tj : Tok} {v sg : Value} {R r r2 : Addr} {cR : Nat} {rs : List Value} {Out : Value → List (Addr × Obj) → Prop}
    (ho : m "op" = some (.int o to)) (hv : m "value" = some v) (hr : m "row" = some (.ref r)) (hrs : m "rows" = some (.ref R)) (hsg : m "segment" = some sg) (hj : m "which" = some (.int j tj)) (h0 : 0 ≤ j) (h1 : j < 2) (hR : (R, listOf rs.toArray cR) ∈ news) (hx : rs[(1 - j).toNat]? = some (.ref r2))
    (source_tel : Tel w 225 16 70 [.int o to, v, .ref r, .ref r2, sg] news Out) :
    Blk w l ns (LC c1 c2 c3 c4 c5 c6 c7) (stAt turnBody 10) m news (fun m' n' => ∃ r, m' = setL "source" r m ∧ Out r n') := by
  refine' blk_lit ?e ?_
  case e => exact rfl
  unfold Blk
  intro vs mean mg mb dp un gd a ccd outer A₀ h₀ L s Q E B F X N T hl hI hlen hdp hun hret
  revert X; k_fill; intro X
  repeat' (first | (k_unfold; (try dsimp only)) | (k_end; wrow_close) | (walk1; (all_goals (try dsimp only))) | (dsimp only; walk1) | fail "no step")
  all_goals exact hret _ _ _ _ (by k_asm) (by first | k_asm | exact news_sub (by assumption) (fun p hp => by first | exact hp | exact sub_drop2 p hp | exact sub_drop3 p hp | exact .tail _ hp | exact .tail _ (.tail _ hp) | exact .tail _ (.tail _ (.tail _ hp)) | exact .tail _ (.tail _ (.tail _ (.tail _ hp))))) ⟨_, rfl, by assumption⟩
end
section
local macro_rules | `(tactic| walk_at "call ref") => `(tactic| (k_here; k_dflt (show wpAny _ _ (call (Value.ref 218) _) _ _ _); k_dflt (refine' telT_use ?_); intro r9 n9 h' tk' F' N' hO; (try dsimp only)))
theorem turn_12 {w : World} {l : Addr} {ns : List Int} {c1 c2 c3 c4 c5 c6 c7 : Addr} {m : Str → Option Value} {news : List (Addr × Obj)} {o j a e b : Int} {to tj ta te tb : Tok} {v sg : Value} {T t0 t1 : Addr} {cT : Nat} {ts : List Value} {Out : Value → List (Addr × Obj) → Prop}
    (ho : m "op" = some (.int o to)) (hT : m "tables" = some (.ref T)) (hj : m "which" = some (.int j tj)) (h0 : 0 ≤ j) (h1 : j < 2) (ha : m "to" = some (.int a ta)) (hv : m "value" = some v) (hsg : m "segment" = some sg) (he : m "begin" = some (.int e te)) (hb : m "many" = some (.int b tb))
    (hTT : (T, listOf ts.toArray cT) ∈ news) (hx0 : ts[j.toNat]? = some (.ref t0)) (hx1 : ts[(1 - j).toNat]? = some (.ref t1))
    (C : TelT w 218 24 120 [.int o to, .ref t0, .ref t1, .int a ta, v, sg, .int e te, .int b tb] news Out) :
    Blk w l ns (LC c1 c2 c3 c4 c5 c6 c7) (stAt turnBody 12) m news (fun m' n' => ∃ r, m' = setL "told" r m ∧ Out r n') := by
  refine' blk_lit ?e ?_
  case e => exact rfl
  unfold Blk
  intro vs mean mg mb dp un gd a ccd outer A₀ h₀ L s Q E B F X N T hl hI hlen hdp hun hret
  revert X; k_fill; intro X
  repeat' (first | (k_unfold; (try dsimp only)) | (k_end; wrow_close) | (walk1; (all_goals (try dsimp only))) | (dsimp only; walk1) | fail "no step")
  all_goals exact hret _ _ _ _ (by k_asm) (by first | k_asm | exact news_sub (by assumption) (fun p hp => by first | exact hp | exact sub_drop2 p hp | exact sub_drop3 p hp | exact .tail _ hp | exact .tail _ (.tail _ hp) | exact .tail _ (.tail _ (.tail _ hp)) | exact .tail _ (.tail _ (.tail _ (.tail _ hp))))) ⟨_, rfl, by assumption⟩
end
theorem rs_B1_16 {M : Model} {A : Around} {E : Value → Shared → Prop} {env : Env} {s : Shared} {Q : Flow → Shared → Prop} (h : Q .next s) : wpAny M A (execs [] env) Q E s := by
  walk1
  exact h
section
local macro_rules | `(tactic| walk_at "call ref") => `(tactic| (k_here; k_dflt (show wpAny _ _ (call (Value.ref 211) _) _ _ _); k_dflt (refine' telA_use ?_); intro r9 n9 h' tk' F' N' hO; obtain ⟨D9, D1, A9, k9, v9, c9, e1, i1, i2, i3, i4, i5, i6⟩ := hO; subst e1; (try dsimp only)))
theorem turn_13 {w : World} {l : Addr} {ns : List Int} {c1 c2 c3 c4 c5 c6 c7 : Addr} {m : Str → Option Value} {news : List (Addr × Obj)} {o j a e b lim : Int} {to tj ta te tb tl : Tok} {v : Value} {Li ra sa : Addr} {cT : Nat} {ls : List Value} {msg : Str} {pv : Value → Prop} {after : List Value}
    (ho : m "op" = some (.int o to)) (hr : m "row" = some (.ref ra)) (hT : m "limits" = some (.ref Li)) (hj : m "which" = some (.int j tj)) (h0 : 0 ≤ j) (h1 : j < 2) (ha : m "to" = some (.int a ta)) (hv : m "value" = some v) (hsg : m "source" = some (.ref sa)) (he : m "begin" = some (.int e te)) (hb : m "many" = some (.int b tb))
    (hTT : (Li, listOf ls.toArray cT) ∈ news) (hx0 : ls[j.toNat]? = some (.int lim tl))
    (C : Tel w 211 20 90 [.int o to, .ref ra, .int a ta, v, .ref sa, .int e te, .int b tb, .int lim tl] news (DueO msg pv after ra news)) :
    Blk w l ns (LC c1 c2 c3 c4 c5 c6 c7) (stAt turnBody 13) m news (fun m' n' => ∃ D1 A k v c', m' = setL "after" (.ref A) (setL "due" (.ref D1) m) ∧ (D1, tupObj [.str msg k, v]) ∈ n' ∧ pv v ∧ (A, listOf after.toArray c') ∈ n' ∧ (∀ p ∈ news, p ∈ n') ∧ (A = ra ∨ ∀ p ∈ news, p.1 ≠ A)) := by
  refine' blk_lit ?e ?_
  case e => exact rfl
  unfold Blk
  intro vs mean mg mb dp un gd a ccd outer A₀ h₀ L s Q E B F X N T hl hI hlen hdp hun hret
  revert X; k_fill; intro X
  repeat' (first | (k_unfold; (try dsimp only)) | (k_end; wrow_close) | (walk1; (all_goals (try dsimp only))) | (dsimp only; walk1) | fail "no step")
  all_goals exact hret _ _ _ _ (by k_asm) (by first | k_asm | exact news_sub (by assumption) (fun p hp => by first | exact hp | exact sub_drop2 p hp | exact sub_drop3 p hp | exact .tail _ hp | exact .tail _ (.tail _ hp) | exact .tail _ (.tail _ (.tail _ hp)) | exact .tail _ (.tail _ (.tail _ (.tail _ hp))))) ⟨_, _, _, _, _, rfl, by assumption, by assumption, by assumption, by assumption, by assumption⟩
end
theorem turn_14 {w : World} {l : Addr} {ns : List Int} {c1 c2 c3 c4 c5 c6 c7 : Addr} {m : Str → Option Value} {news : List (Addr × Obj)} {j : Int} {tj : Tok} {R : Addr} {cR : Nat} {rs : List Value} {A : Value} (hr : m "rows" = some (.ref R)) (hj : m "which" = some (.int j tj)) (hv : m "after" = some A) (hR : (R, listOf rs.toArray cR) ∈ news) (h0 : 0 ≤ j) (h1 : j < rs.length) (hz : rs.length ≤ 100) :
    Blk w l ns (LC c1 c2 c3 c4 c5 c6 c7) (stAt turnBody 14) m news (fun m' n' => m' = m ∧ n' = updL R (listOf (rs.set j.toNat A).toArray cR) news) := by
  refine' blk_lit ?e ?_
  case e => exact rfl
  unfold Blk
  intro vs mean mg mb dp un gd a ccd outer A₀ h₀ L s Q E B F X N T hl hI hlen hdp hun hret
  revert X; k_fill; intro X
  repeat' (first | (k_unfold; (try dsimp only)) | (k_end; wrow_close) | (walk1; (all_goals (try dsimp only))) | (dsimp only; walk1) | fail "no step")
  all_goals exact hret _ _ _ _ (by k_asm) (by first | k_asm | exact news_sub (by assumption) (fun p hp => by first | exact hp | exact sub_drop2 p hp | exact sub_drop3 p hp | exact .tail _ hp | exact .tail _ (.tail _ hp) | exact .tail _ (.tail _ (.tail _ hp)) | exact .tail _ (.tail _ (.tail _ (.tail _ hp))))) ⟨rfl, rfl⟩
local macro_rules | `(tactic| walk_at "call ref") => `(tactic| (k_here; k_dflt (show wpAny _ _ (call (Value.ref 239) _) _ _ _); k_dflt (refine' telA_use ?_); intro r9 n9 h' tk' F' N' hO; obtain ⟨e1, e2⟩ := hO; subst e1; subst e2; (try dsimp only)))
local macro_rules | `(tactic| walk_at "compareOp NotEq ref ref") => `(tactic| (k_here; k_dflt (refine' ne_toldA ?_); (try dsimp only)))
theorem turn_15 {w : World} {l : Addr} {ns : List Int} {c1 c2 c3 c4 c5 c6 c7 : Addr} {m : Str → Option Value} {news : List (Addr × Obj)} {T R Kl Ml D1 D2 : Addr} {o5 o6 : Obj} {msg : Str} {k1 k2 : Tok} {v1 v2 : Value}
    (hT : m "tables" = some (.ref T)) (hR : m "rows" = some (.ref R)) (hK : (c6, o6) ∈ news) (hKd : o6.data = .cell (some (.ref Kl))) (hM : (c5, o5) ∈ news) (hMd : o5.data = .cell (some (.ref Ml)))
    (hd1 : m "told" = some (.ref D1)) (hd2 : m "due" = some (.ref D2)) (ha : (D1, tupObj [.str msg k1, v1]) ∈ news) (hb : (D2, tupObj [.str msg k2, v2]) ∈ news) (cv1 : Cell v1) (cv2 : Cell v2) (e : pd v1 = pd v2) (hx : PyData.canLay0 (.str msg) = true)
    (C : Tel w 239 20 200 [.ref T, .ref R, .ref Kl, .ref Ml] news (fun r n => r = .bool true ∧ n = news)) :
    Blk w l ns (LC c1 c2 c3 c4 c5 c6 c7) (stAt turnBody 15) m news (fun m' n' => m' = m ∧ n' = news) := by
  refine' blk_lit ?e ?_
  case e => exact rfl
  unfold Blk
  intro vs mean mg mb dp un gd a ccd outer A₀ h₀ L s Q E B F X N T hl hI hlen hdp hun hret
  revert X; k_fill; intro X
  repeat' (first | (k_unfold; (try dsimp only)) | (k_end; wrow_close) | (walk1; (all_goals (try dsimp only))) | (dsimp only; walk1) | fail "no step")
  all_goals exact hret _ _ _ _ (by k_asm) (by first | k_asm | exact news_sub (by assumption) (fun p hp => by first | exact hp | exact sub_drop2 p hp | exact sub_drop3 p hp | exact .tail _ hp | exact .tail _ (.tail _ hp) | exact .tail _ (.tail _ (.tail _ hp)) | exact .tail _ (.tail _ (.tail _ (.tail _ hp))))) ⟨rfl, rfl⟩
end
theorem rs_j16_17 {M : Model} {A : Around} {E : Value → Shared → Prop} {env : Env} {s : Shared} {Q : Flow → Shared → Prop} (h : Q .next s) : wpAny M A (execs [] env) Q E s := by
  walk1
  exact h
section
open PySem.Spec PyProof.V
def Bks (w : World) (l : Addr) (ns : List Int) (cl : List (Str × Addr)) (st : List Stmt) (m : Str → Option Value) (news : List (Addr × Obj)) (Out : (Str → Option Value) → List (Addr × Obj) → Prop) : Prop :=
  ∀ (vs : List Value) (mean : ExcName → Option Value) (mg mb : Str → Option Value) (dp un : Nat) (gd : Option (List Code)) (a : Addr) (ccd : Value) (outer : List Env) (A₀ : Around) (h₀ : Heap) (L : Addr) (s : Shared) (Q : Flow → Shared → Prop) (E : Value → Shared → Prop),
    Below A₀ h₀ outer h₀ → Fr h₀ L s.heap m → (Mine.hd.heap_39 w.params).In h₀ → News h₀ L s.heap news → Top Mine.hd.view_39 (looseW Mine.hd.view_39 []) mean mg mb h₀ → h₀.IsList l vs.toArray → IntsAre vs ns → ns.length ≤ 63 → dp + 40 < recursionLimit → un + 400 < cLine →
    (∀ m' news' h' tk', Fr h₀ L h' m' → News h₀ L h' news' → Out m' news' → Q .next { s with heap := h', toks := tk' }) →
    wpAny (model PySem.Challenge.rw_nm0113_01.row.prog w) (ktrTop dp un gd "law" lawScope L a ccd cl outer) (execs st (envX "law" lawScope L a ccd cl)) Q E s
section
variable {w : World} {l : Addr} {ns : List Int} {cl : List (Str × Addr)} {b : List Stmt} {i : Nat} {m : Str → Option Value} {news : List (Addr × Obj)} {O1 Out : (Str → Option Value) → List (Addr × Obj) → Prop}
theorem drop_at (hi : i < b.length) : b.drop i = stAt b i :: b.drop (i + 1) := by
  rw [List.drop_eq_getElem_cons hi]
  unfold stAt
  rw [List.getElem?_eq_getElem hi]; rfl
theorem bks_cons (h1 : Blk w l ns cl (stAt b i) m news O1) (h2 : ∀ m' n', O1 m' n' → Bks w l ns cl (b.drop (i + 1)) m' n' Out) (hi : i < b.length := by decide +kernel) : Bks w l ns cl (b.drop i) m news Out := by
  rw [drop_at hi]
  intro vs mean mg mb dp un gd a ccd outer A₀ h₀ L s Q E B F X N T hl hI hlen hdp hun hret
  refine wpAny_execs_cons (h1 vs mean mg mb dp un gd a ccd outer A₀ h₀ L s _ E B F X N T hl hI hlen hdp hun fun m' n' h' tk' F' N' o => ?_)
  exact h2 m' n' o vs mean mg mb dp un gd a ccd outer A₀ h₀ L { s with heap := h', toks := tk' } Q E B F' X N' T hl hI hlen hdp hun fun m'' n'' h'' tk'' F'' N'' o' => hret m'' n'' h'' tk'' F'' N'' o'
theorem bks_end (h : Out m news) (hi : b.length ≤ i := by decide +kernel) : Bks w l ns cl (b.drop i) m news Out := by
  rw [List.drop_eq_nil_of_le hi]
  intro vs mean mg mb dp un gd a ccd outer A₀ h₀ L s Q E B F X N T hl hI hlen hdp hun hret
  exact wpAny_execs_nil (hret m news s.heap s.toks F N h)
def FunL (news : List (Addr × Obj)) : Prop := ∀ p ∈ news, ∀ q ∈ news, p.1 = q.1 → p.2 = q.2
theorem funL_of {h₀ h : Heap} {L : Addr} (N : News h₀ L h news) : FunL news := fun p hp q hq e => by
  have h1 := (N p hp).1
  have h2 := (N q hq).1
  rw [e, h2] at h1
  exact (Option.some.inj h1).symm
theorem bks_fun {st : List Stmt} (h : FunL news → Bks w l ns cl st m news Out) : Bks w l ns cl st m news Out :=
  fun vs mean mg mb dp un gd a ccd outer A₀ h₀ L s Q E B F X N T hl hI hlen hdp hun hret => h (funL_of N) vs mean mg mb dp un gd a ccd outer A₀ h₀ L s Q E B F X N T hl hI hlen hdp hun hret
theorem tup_ne {D R : Addr} {vs : List Value} {arr : Array Value} {c : Nat} (f : FunL news) (h : (D, tupObj vs) ∈ news) (h' : (R, listOf arr c) ∈ news) : D ≠ R := fun e => by
  have := congrArg Obj.cls (f _ h _ h' e)
  exact absurd (Value.type.inj this) (by decide)
end
theorem src_all {w : World} {i : Addr} {oi : Obj} {op : Int} {to : Tok} {v sv : Value} {ra rb : Addr} {c c' : Nat} {row row' seg : List Value} {news : List (Addr × Obj)}
    (h0 : 0 ≤ op) (h7 : op < 7) (hz : row.length ≤ 50) (hr : (ra, listOf row.toArray c) ∈ news) (hr' : (rb, listOf row'.toArray c') ∈ news)
    (hsv : (sv = .none ∧ seg = []) ∨ ∃ g cg, sv = .ref g ∧ (g, listOf seg.toArray cg) ∈ news ∧ g ≠ i) (hi : (i, oi) ∈ news) (ni : ra ≠ i) (ni' : rb ≠ i)
    (cr : ∀ x ∈ row, Cell x) (cr' : ∀ x ∈ row', Cell x) (csg : ∀ x ∈ seg, Cell x) (cv : Cell v) :
    ∃ src : List Value, (∀ x ∈ src, Cell x) ∧ (op = 4 → src = seg) ∧ (op = 6 → src = row') ∧ (op = 0 ∨ op = 2 → src = List.replicate row.length v) ∧ (op = 1 ∨ op = 3 ∨ op = 5 → src = row) ∧
      Tel w 225 16 70 [.int op to, v, .ref ra, .ref rb, sv] news (fun r n => ∃ S c, r = .ref S ∧ (S, listOf src.toArray c) ∈ n ∧ S ≠ i ∧ ∀ p ∈ news, p ∈ n) := by
  have fin : ∀ {src : List Value}, Tel w 225 16 70 [.int op to, v, .ref ra, .ref rb, sv] news (SrcO src (· ≠ i) news) → Tel w 225 16 70 [.int op to, v, .ref ra, .ref rb, sv] news (fun r n => ∃ S c, r = .ref S ∧ (S, listOf src.toArray c) ∈ n ∧ S ≠ i ∧ ∀ p ∈ news, p ∈ n) := fun C => tel_mono C fun r n o => by
    obtain ⟨S, c, e, h, h'⟩ := o
    rcases h' with ⟨rfl, hn⟩ | ⟨rfl, hn⟩
    · exact ⟨S, c, e, h, hn, fun p hp => hp⟩
    · exact ⟨S, c, e, h, Nat.ne_of_gt (hn _ hi), fun p hp => .tail _ hp⟩
  have h := op7 h0 h7
  rcases h with rfl | rfl | rfl | rfl | rfl | rfl | rfl
  · exact ⟨_, cells_rep cv, by omega, by omega, fun _ => rfl, by omega, fin (source_0 (by omega) hr)⟩
  · exact ⟨row, cr, by omega, by omega, by omega, fun _ => rfl, fin (source_1 hr ni)⟩
  · exact ⟨_, cells_rep cv, by omega, by omega, fun _ => rfl, by omega, fin (source_2 (by omega) hr)⟩
  · exact ⟨row, cr, by omega, by omega, by omega, fun _ => rfl, fin (source_3 hr ni)⟩
  · rcases hsv with ⟨rfl, rfl⟩ | ⟨g, cg, rfl, hg, hgi⟩
    · exact ⟨[], csg, fun _ => rfl, by omega, by omega, by omega, fin source_4n⟩
    · exact ⟨seg, csg, fun _ => rfl, by omega, by omega, by omega, fin (source_4 hg hgi)⟩
  · exact ⟨row, cr, by omega, by omega, by omega, fun _ => rfl, fin (source_5 hr ni)⟩
  · exact ⟨row', cr', by omega, fun _ => rfl, by omega, by omega, fin (source_6 hr' ni')⟩
abbrev Mfix (m : Str → Option Value) (l T R S Li Rf : Addr) : Prop := m "script" = some (.ref l) ∧ m "tables" = some (.ref T) ∧ m "rows" = some (.ref R) ∧ m "segments" = some (.ref S) ∧ m "limits" = some (.ref Li) ∧ m "refs" = some (.ref Rf)
theorem turn_mid {w : World} {l : Addr} {ns : List Int} {c1 c2 c3 c4 c5 c6 c7 : Addr} {m : Str → Option Value} {news : List (Addr × Obj)} {Out : (Str → Option Value) → List (Addr × Obj) → Prop}
    {k j op dg nu le : Int} {tk tj to td tn tle : Tok} {T R S Li Rf g0 g1 : Addr} {ts rs ls sg0 sg1 : List Value} {cT cR cS cL cg0 cg1 : Nat} {t d i a t' d' i' a' : Addr} {k1 k2 k3 k4 k1' k2' k3' k4' : Tok} {kd mo kd' mo' el' : Value} {el lim : Int} {te tl : Tok} {row row' : List Value} {c ca c' ca' : Nat} {keep : List (Addr × Obj)}
    (hm : Mfix m l T R S Li Rf) (hk : m "k" = some (.int k tk)) (hk0 : 0 ≤ k) (hk1 : k < 15) (hdg : m "digit" = some (.int dg td)) (hnu : m "number" = some (.int nu tn)) (hle : m "length" = some (.int le tle)) (hop : m "op" = some (.int op to)) (o0 : 0 ≤ op) (o7 : op < 7) (hj : m "which" = some (.int j tj)) (j0 : 0 ≤ j) (j1 : j < 2)
    (hkeep : ∀ p ∈ keep, p ∈ news ∧ p.1 ≠ i ∧ p.1 ≠ R) (hT : (T, listOf ts.toArray cT) ∈ keep) (hR : (R, listOf rs.toArray cR) ∈ news) (hLi : (Li, listOf ls.toArray cL) ∈ keep) (hS : (S, listOf [.ref g0, .ref g1, .none].toArray cS) ∈ keep) (hg0 : (g0, listOf sg0.toArray cg0) ∈ keep) (hg1 : (g1, listOf sg1.toArray cg1) ∈ keep)
    (ht : (t, instObj 159 d) ∈ keep) (hd : (d, TDict w k1 k2 k3 k4 kd mo (.int el te) i) ∈ keep) (hi : (i, listOf row.toArray c) ∈ news) (ha : (a, listOf row.toArray ca) ∈ news) (ai : a ≠ i) (aR : a ≠ R) (iR : i ≠ R) (ai' : a ≠ i')
    (ht' : (t', instObj 159 d') ∈ keep) (hd' : (d', TDict w k1' k2' k3' k4' kd' mo' el' i') ∈ keep) (hi' : (i', listOf row'.toArray c') ∈ keep) (ha' : (a', listOf row'.toArray ca') ∈ keep)
    (xt : ts[j.toNat]? = some (.ref t)) (xt' : ts[(1 - j).toNat]? = some (.ref t')) (xr : rs[j.toNat]? = some (.ref a)) (xr' : rs[(1 - j).toNat]? = some (.ref a')) (xl : ls[j.toNat]? = some (.int lim tl)) (hrs : rs.length = 2)
    (hz : row.length ≤ lim) (hz' : row'.length ≤ 50) (hlim : LimIs mo el lim) (hel : el ≤ 50) (z0 : sg0.length ≤ 50) (z1 : sg1.length ≤ 50)
    (cr : ∀ x ∈ row, Cell x) (cr' : ∀ x ∈ row', Cell x) (cg0' : ∀ x ∈ sg0, Cell x) (cg1' : ∀ x ∈ sg1, Cell x)
    (fin : ∀ m' n' A after cA ci msg D1 D2 κ1 κ2 y1 y2, Mfix m' l T R S Li Rf → m' "told" = some (.ref D1) → m' "due" = some (.ref D2) → (D1, tupObj [.str msg κ1, y1]) ∈ n' → (D2, tupObj [.str msg κ2, y2]) ∈ n' → Cell y1 → Cell y2 → pd y1 = pd y2 → PyData.canLay0 (.str msg) = true →
      (∀ p ∈ keep, p ∈ n') → (i, listOf (after : List Value).toArray ci) ∈ n' → (A, listOf after.toArray cA) ∈ n' → (R, listOf (rs.set j.toNat (.ref A)).toArray cR) ∈ n' → A ≠ i → A ≠ R → A ≠ i' → (∀ y ∈ after, Cell y) → after.length ≤ lim → Bks w l ns (LC c1 c2 c3 c4 c5 c6 c7) (turnBody.drop 15) m' n' Out) :
    Bks w l ns (LC c1 c2 c3 c4 c5 c6 c7) (turnBody.drop 5) m news Out := by
  obtain ⟨hs, hmT, hmR, hmS, hmL, hmRf⟩ := hm
  have hlim50 : lim ≤ 50 := by
    rcases hlim with ⟨_, h⟩ | ⟨mm, tm, _, h⟩ <;> omega
  have K := fun {p} hp => (hkeep p hp).1
  refine bks_cons (turn_5 hmR hj hR j0 j1 xr) ?_
  rintro _ _ ⟨rfl, rfl⟩
  refine bks_cons (turn_6 hmS hdg (K hS)) ?_
  rintro _ _ ⟨sv, rfl, rfl, hsv⟩
  refine bks_cons (turn_7 hk hnu) ?_
  rintro _ _ ⟨v, rfl, rfl, cv⟩
  refine bks_cons (turn_8 hle hop) ?_
  rintro _ _ ⟨b, tb, rfl, rfl, hb⟩
  refine bks_cons (turn_9 hs hk hk0 hk1 rfl ha (by omega)) ?_
  rintro _ _ ⟨ia, ta, rfl, rfl⟩
  have hseg : ∃ seg : List Value, seg.length ≤ 50 ∧ (∀ x ∈ seg, Cell x) ∧ ((sv = .none ∧ seg = []) ∨ ∃ g cg, sv = .ref g ∧ (g, listOf seg.toArray cg) ∈ keep) := by
    rcases hsv with rfl | rfl | rfl
    · exact ⟨sg0, z0, cg0', .inr ⟨_, _, rfl, hg0⟩⟩
    · exact ⟨sg1, z1, cg1', .inr ⟨_, _, rfl, hg1⟩⟩
    · exact ⟨[], by decide, (fun _ h => nomatch h), .inl ⟨rfl, rfl⟩⟩
  obtain ⟨seg, zs, cseg, hseg⟩ := hseg
  obtain ⟨src, csrc, s4, s6, s2, s1, C⟩ := src_all (w := w) (to := to) (v := v) (sv := sv) (seg := seg) o0 o7 (by omega) ha (K ha') (by
    rcases hseg with h | ⟨g, cg, e, h⟩
    · exact .inl h
    · exact .inr ⟨g, cg, e, K h, (hkeep _ h).2.1⟩) hi ai (hkeep _ ha').2.1 cr cr' cseg cv
  refine bks_cons (turn_10 hop rfl rfl hmR rfl hj j0 j1 hR xr' C) ?_
  rintro _ n1 ⟨_, rfl, S1, cS1, rfl, hsrc, nS1, sub1⟩
  have hsl : src.length ≤ 50 := by
    have h := op7 o0 o7
    rcases h with h | h | h | h | h | h | h
    · rw [s2 (.inl h), List.length_replicate]; omega
    · rw [s1 (.inl h)]; omega
    · rw [s2 (.inr h), List.length_replicate]; omega
    · rw [s1 (.inr (.inl h))]; omega
    · rw [s4 h]; exact zs
    · rw [s1 (.inr (.inr h))]; omega
    · rw [s6 h]; exact hz'
  refine bks_cons (turn_11 hnu hop rfl hsrc (by omega)) ?_
  rintro _ _ ⟨e, tee, rfl, rfl, he⟩
  obtain ⟨msg, x, after, hlay, cA', lenA, TL, DU⟩ := both (w := w) (a := ia) (to := to) (ta := ta) (te := tee) (tb := tb) (tel := te) o0 o7 (by omega) hz' zs hlim hel hz cr csrc cv hb he s4 s6 s2 s1
  have K1 := fun {p} hp => sub1 p (@K p hp)
  refine bks_cons (turn_12 hop hmT hj j0 j1 rfl rfl rfl rfl rfl (K1 hT) xt xt' (TL (K1 ht) (K1 hd) (sub1 _ hi) (K1 ht') (K1 hd') (K1 hi') (by
    rcases hseg with h | ⟨g, cg, e, h⟩
    · exact .inl h
    · exact .inr ⟨g, cg, e, K1 h, fun h' => (hkeep _ h).2.1 h'.symm⟩))) ?_
  rintro _ n2 ⟨_, rfl, D1, κ1, y1, ci, rfl, hD1, cy1, ey1, hi2, sub2⟩
  have K2 := fun {p} hp => sub2 p (@K1 p hp) (hkeep p hp).2.1
  refine bks_cons (turn_13 hop rfl hmL hj j0 j1 rfl rfl rfl rfl rfl (K2 hLi) xl (DU (sub2 _ (sub1 _ ha) ai) (sub2 _ hsrc nS1))) ?_
  rintro _ n3 ⟨D2, A, κ2, y2, cA, rfl, hD2, ⟨cy2, ey2⟩, hA, sub3, hA'⟩
  have hR3 := sub3 _ (sub2 _ (sub1 _ hR) (Ne.symm iR))
  have nA : A ≠ i ∧ A ≠ R ∧ A ≠ i' := by
    rcases hA' with rfl | h
    · exact ⟨ai, aR, ai'⟩
    · exact ⟨fun e => h _ hi2 e.symm, fun e => h _ (sub2 _ (sub1 _ hR) (Ne.symm iR)) e.symm, fun e => h _ (K2 hi') e.symm⟩
  refine bks_fun fun f3 => ?_
  refine bks_cons (turn_14 hmR hj rfl hR3 j0 (by rw [hrs]; exact j1) (by rw [hrs]; decide)) ?_
  rintro _ _ ⟨rfl, rfl⟩
  exact fin _ _ A after cA ci msg D1 D2 κ1 κ2 y1 y2 ⟨hs, hmT, hmR, hmS, hmL, hmRf⟩ rfl rfl (updL_ne (sub3 _ hD1) (tup_ne f3 (sub3 _ hD1) hR3)) (updL_ne hD2 (tup_ne f3 hD2 hR3)) cy1 cy2 (ey1.trans ey2.symm) hlay
    (fun p hp => updL_ne (sub3 _ (K2 hp)) (hkeep p hp).2.2) (updL_ne (sub3 _ hi2) iR) (updL_ne hA nA.2.1) (updL_self hR3) nA.1 nA.2.1 nA.2.2 cA' lenA
end
section
open PySem.Spec PyProof.V
/-- what the loop does not turn -/
structure Fx where
  (T Kl Ml Li S Rf g0 g1 t0 t1 d0 d1 i0 i1 R : Addr)
  (o5 o6 : Obj)
  (cT cK cM cL cS cR cg0 cg1 cRf : Nat)
  (k10 k20 k30 k40 k11 k21 k31 k41 te0 te1 tl0 tl1 : Tok)
  (kd0 kd1 mo0 mo1 : Value)
  (el lim0 lim1 : Int)
  (sg0 sg1 refs : List Value)
structure FxOk (w : World) (c5 c6 : Addr) (x : Fx) (stay : List (Addr × Obj)) : Prop where
  hT : (x.T, listOf [.ref x.t0, .ref x.t1].toArray x.cT) ∈ stay
  hK : (x.Kl, listOf [x.kd0, x.kd1].toArray x.cK) ∈ stay
  hM : (x.Ml, listOf [x.mo0, x.mo1].toArray x.cM) ∈ stay
  hL : (x.Li, listOf [.int x.lim0 x.tl0, .int x.lim1 x.tl1].toArray x.cL) ∈ stay
  hS : (x.S, listOf [.ref x.g0, .ref x.g1, .none].toArray x.cS) ∈ stay
  hg0 : (x.g0, listOf x.sg0.toArray x.cg0) ∈ stay
  hg1 : (x.g1, listOf x.sg1.toArray x.cg1) ∈ stay
  hRf : (x.Rf, listOf x.refs.toArray x.cRf) ∈ stay
  ht0 : (x.t0, instObj 159 x.d0) ∈ stay
  hd0 : (x.d0, TDict w x.k10 x.k20 x.k30 x.k40 x.kd0 x.mo0 (.int x.el x.te0) x.i0) ∈ stay
  ht1 : (x.t1, instObj 159 x.d1) ∈ stay
  hd1 : (x.d1, TDict w x.k11 x.k21 x.k31 x.k41 x.kd1 x.mo1 (.int x.el x.te1) x.i1) ∈ stay
  h5 : (c5, x.o5) ∈ stay
  h5d : x.o5.data = .cell (some (.ref x.Ml))
  h6 : (c6, x.o6) ∈ stay
  h6d : x.o6.data = .cell (some (.ref x.Kl))
  off : ∀ p ∈ stay, p.1 ≠ x.i0 ∧ p.1 ≠ x.i1 ∧ p.1 ≠ x.R
  ii : x.i0 ≠ x.i1
  i0R : x.i0 ≠ x.R
  i1R : x.i1 ≠ x.R
  l0 : LimIs x.mo0 x.el x.lim0
  l1 : LimIs x.mo1 x.el x.lim1
  le : x.el ≤ 50
  ck0 : Cell x.kd0
  ck1 : Cell x.kd1
  cm0 : Cell x.mo0
  cm1 : Cell x.mo1
  z0 : x.sg0.length ≤ 50
  z1 : x.sg1.length ≤ 50
  cs0 : ∀ v ∈ x.sg0, Cell v
  cs1 : ∀ v ∈ x.sg1, Cell v
/-- what a turn leaves -/
def Dy (x : Fx) (stay news : List (Addr × Obj)) : Prop :=
  ∃ (r0 r1 : List Value) (c0 c1 b0 b1 : Nat) (a0 a1 : Addr), (∀ p ∈ stay, p ∈ news) ∧ (x.i0, listOf r0.toArray c0) ∈ news ∧ (x.i1, listOf r1.toArray c1) ∈ news ∧ (x.R, listOf [.ref a0, .ref a1].toArray x.cR) ∈ news ∧
    (a0, listOf r0.toArray b0) ∈ news ∧ (a1, listOf r1.toArray b1) ∈ news ∧ (a0 ≠ x.i0 ∧ a0 ≠ x.i1 ∧ a0 ≠ x.R) ∧ (a1 ≠ x.i0 ∧ a1 ≠ x.i1 ∧ a1 ≠ x.R) ∧ (∀ v ∈ r0, Cell v) ∧ (∀ v ∈ r1, Cell v) ∧ (r0.length : Int) ≤ x.lim0 ∧ (r1.length : Int) ≤ x.lim1
theorem lim50 {mo : Value} {el lim : Int} (h : LimIs mo el lim) (he : el ≤ 50) : lim ≤ 50 := by
  rcases h with ⟨_, h⟩ | ⟨mm, tm, _, h⟩ <;> omega
theorem turn_all {w : World} {l : Addr} {ns : List Int} {c1 c2 c3 c4 c5 c6 c7 : Addr} {m : Str → Option Value} {news stay : List (Addr × Obj)} {x : Fx} {k : Int} {tk : Tok}
    (hx : FxOk w c5 c6 x stay) (hm : Mfix m l x.T x.R x.S x.Li x.Rf) (hk : m "k" = some (.int k tk)) (hk0 : 0 ≤ k) (hk1 : k < 15) (hy : Dy x stay news) :
    Bks w l ns (LC c1 c2 c3 c4 c5 c6 c7) turnBody m news (fun m' n' => Mfix m' l x.T x.R x.S x.Li x.Rf ∧ Dy x stay n') := by
  obtain ⟨r0, r1, q0, q1, b0, b1, a0, a1, sub, hi0, hi1, hR, ha0, ha1, ⟨n00, n01, n0R⟩, ⟨n10, n11, n1R⟩, cr0, cr1, z0, z1⟩ := hy
  obtain ⟨hs, hmT, hmR, hmS, hmL, hmRf⟩ := id hm
  have L0 := lim50 hx.l0 hx.le
  have L1 := lim50 hx.l1 hx.le
  have go : Bks w l ns (LC c1 c2 c3 c4 c5 c6 c7) (turnBody.drop 0) m news (fun m' n' => Mfix m' l x.T x.R x.S x.Li x.Rf ∧ Dy x stay n') := by
    refine bks_cons (turn_0 hs hk hk0 hk1) ?_
    rintro _ _ ⟨dg, td, rfl, rfl⟩
    refine bks_cons (turn_1 hs hk hk0 hk1) ?_
    rintro _ _ ⟨nu, tn, rfl, rfl⟩
    refine bks_cons (turn_2 hs hk hk0 hk1) ?_
    rintro _ _ ⟨le, tle, rfl, rfl⟩
    refine bks_cons (turn_3 hk rfl) ?_
    rintro _ _ ⟨op, to, rfl, rfl, o0, o7⟩
    refine bks_cons (turn_4 hk rfl) ?_
    rintro _ _ ⟨j, tj, rfl, rfl, j0, j1⟩
    have hj : j = 0 ∨ j = 1 := by omega
    rcases hj with rfl | rfl
    · refine turn_mid (keep := (x.i1, listOf r1.toArray q1) :: (a1, listOf r1.toArray b1) :: stay) (ts := [.ref x.t0, .ref x.t1]) (rs := [.ref a0, .ref a1]) (t := x.t0) (t' := x.t1) (a := a0) (a' := a1) (i := x.i0) (i' := x.i1) (row := r0) (row' := r1) (lim := x.lim0) ⟨hs, hmT, hmR, hmS, hmL, hmRf⟩ hk hk0 hk1 rfl rfl rfl rfl o0 o7 rfl j0 j1
        ?_ (.tail _ (.tail _ hx.hT)) hR (.tail _ (.tail _ hx.hL)) (.tail _ (.tail _ hx.hS)) (.tail _ (.tail _ hx.hg0)) (.tail _ (.tail _ hx.hg1)) (.tail _ (.tail _ hx.ht0)) (.tail _ (.tail _ hx.hd0)) hi0 ha0 n00 n0R hx.i0R n01
        (.tail _ (.tail _ hx.ht1)) (.tail _ (.tail _ hx.hd1)) (.head _) (.tail _ (.head _)) rfl rfl rfl rfl rfl rfl z0 (by omega) hx.l0 hx.le hx.z0 hx.z1 cr0 cr1 hx.cs0 hx.cs1 ?_
      · intro p hp
        rcases List.mem_cons.mp hp with rfl | hp
        · exact ⟨hi1, hx.ii.symm, hx.i1R⟩
        · rcases List.mem_cons.mp hp with rfl | hp
          · exact ⟨ha1, n10, n1R⟩
          · exact ⟨sub p hp, (hx.off p hp).1, (hx.off p hp).2.2⟩
      · intro m' n' A after cA ci msg D1 D2 κ1 κ2 y1 y2 hm' ht hd hD1 hD2 cy1 cy2 ey hlay hkeep hi hA hR' nAi nAR nAi' cA' lA
        have K := fun {p} hp => hkeep p (.tail _ (.tail _ hp))
        refine bks_cons (turn_15 hm'.2.1 hm'.2.2.1 (K hx.h6) hx.h6d (K hx.h5) hx.h5d ht hd hD1 hD2 cy1 cy2 ey hlay (same_tel (K hx.hT) hR' (K hx.hK) (K hx.hM) (K hx.ht0) (K hx.hd0) hi hA (K hx.ht1) (K hx.hd1) (hkeep _ (.head _)) (hkeep _ (.tail _ (.head _))) hx.ck0 hx.ck1 hx.cm0 hx.cm1 cA' cr1 (by omega) (by omega))) ?_
        rintro _ _ ⟨rfl, rfl⟩
        exact bks_end ⟨hm', after, r1, ci, q1, cA, b1, A, a1, fun p hp => K hp, hi, hkeep _ (.head _), hR', hA, hkeep _ (.tail _ (.head _)), ⟨nAi, nAi', nAR⟩, ⟨n10, n11, n1R⟩, cA', cr1, lA, z1⟩
    · refine turn_mid (keep := (x.i0, listOf r0.toArray q0) :: (a0, listOf r0.toArray b0) :: stay) (ts := [.ref x.t0, .ref x.t1]) (rs := [.ref a0, .ref a1]) (t := x.t1) (t' := x.t0) (a := a1) (a' := a0) (i := x.i1) (i' := x.i0) (row := r1) (row' := r0) (lim := x.lim1) ⟨hs, hmT, hmR, hmS, hmL, hmRf⟩ hk hk0 hk1 rfl rfl rfl rfl o0 o7 rfl j0 j1
        ?_ (.tail _ (.tail _ hx.hT)) hR (.tail _ (.tail _ hx.hL)) (.tail _ (.tail _ hx.hS)) (.tail _ (.tail _ hx.hg0)) (.tail _ (.tail _ hx.hg1)) (.tail _ (.tail _ hx.ht1)) (.tail _ (.tail _ hx.hd1)) hi1 ha1 n11 n1R hx.i1R n10
        (.tail _ (.tail _ hx.ht0)) (.tail _ (.tail _ hx.hd0)) (.head _) (.tail _ (.head _)) rfl rfl rfl rfl rfl rfl z1 (by omega) hx.l1 hx.le hx.z0 hx.z1 cr1 cr0 hx.cs0 hx.cs1 ?_
      · intro p hp
        rcases List.mem_cons.mp hp with rfl | hp
        · exact ⟨hi0, hx.ii, hx.i0R⟩
        · rcases List.mem_cons.mp hp with rfl | hp
          · exact ⟨ha0, n01, n0R⟩
          · exact ⟨sub p hp, (hx.off p hp).2.1, (hx.off p hp).2.2⟩
      · intro m' n' A after cA ci msg D1 D2 κ1 κ2 y1 y2 hm' ht hd hD1 hD2 cy1 cy2 ey hlay hkeep hi hA hR' nAi nAR nAi' cA' lA
        have K := fun {p} hp => hkeep p (.tail _ (.tail _ hp))
        refine bks_cons (turn_15 hm'.2.1 hm'.2.2.1 (K hx.h6) hx.h6d (K hx.h5) hx.h5d ht hd hD1 hD2 cy1 cy2 ey hlay (same_tel (K hx.hT) hR' (K hx.hK) (K hx.hM) (K hx.ht0) (K hx.hd0) (hkeep _ (.head _)) (hkeep _ (.tail _ (.head _))) (K hx.ht1) (K hx.hd1) hi hA hx.ck0 hx.ck1 hx.cm0 hx.cm1 cr0 cA' (by omega) (by omega))) ?_
        rintro _ _ ⟨rfl, rfl⟩
        exact bks_end ⟨hm', r0, after, q0, ci, b0, cA, a0, A, fun p hp => K hp, hkeep _ (.head _), hi, hR', hkeep _ (.tail _ (.head _)), hA, ⟨n00, n01, n0R⟩, ⟨nAi', nAi, nAR⟩, cr0, cA', z0, lA⟩
  exact go
end
section
open PySem.Spec PyProof.V
theorem FxOk.cons {w : World} {c5 c6 : Addr} {x : Fx} {stay : List (Addr × Obj)} {p : Addr × Obj} (h : FxOk w c5 c6 x stay) (hp : p.1 ≠ x.i0 ∧ p.1 ≠ x.i1 ∧ p.1 ≠ x.R) : FxOk w c5 c6 x (p :: stay) where
  hT := .tail _ h.hT
  hK := .tail _ h.hK
  hM := .tail _ h.hM
  hL := .tail _ h.hL
  hS := .tail _ h.hS
  hg0 := .tail _ h.hg0
  hg1 := .tail _ h.hg1
  hRf := .tail _ h.hRf
  ht0 := .tail _ h.ht0
  hd0 := .tail _ h.hd0
  ht1 := .tail _ h.ht1
  hd1 := .tail _ h.hd1
  h5 := .tail _ h.h5
  h5d := h.h5d
  h6 := .tail _ h.h6
  h6d := h.h6d
  off := fun q hq => by
    rcases List.mem_cons.mp hq with rfl | hq
    · exact hp
    · exact h.off q hq
  ii := h.ii
  i0R := h.i0R
  i1R := h.i1R
  l0 := h.l0
  l1 := h.l1
  le := h.le
  ck0 := h.ck0
  ck1 := h.ck1
  cm0 := h.cm0
  cm1 := h.cm1
  z0 := h.z0
  z1 := h.z1
  cs0 := h.cs0
  cs1 := h.cs1
theorem it_ne {news : List (Addr × Obj)} {I R : Addr} {a b : Int} {arr : Array Value} {c : Nat} (f : FunL news) (h : (I, itR a b) ∈ news) (h' : (R, listOf arr c) ∈ news) : I ≠ R := fun e => by
  have := congrArg Obj.cls (f _ h _ h' e)
  exact absurd (Value.type.inj this) (by decide)
theorem rest_all {w : World} {l : Addr} {ns : List Int} {c1 c2 c3 c4 c5 c6 c7 : Addr} {stay : List (Addr × Obj)} {x : Fx} {vs : List Value} {mean : ExcName → Option Value} {mg mb : Str → Option Value} {dp un : Nat} {gd : Option (List Code)} {a : Addr} {ccd : Value} {outer : List Env} {A₀ : Around} {h₀ : Heap} {L I : Addr} {s : Shared} {Q : Flow → Shared → Prop} {E : Value → Shared → Prop}
    (hx : FxOk w c5 c6 x stay) (hrc : ∀ p ∈ stay, ∀ a b, p.2 ≠ itR a b) (B : Below A₀ h₀ outer h₀) (X : (Mine.hd.heap_39 w.params).In h₀) (T : Top Mine.hd.view_39 (looseW Mine.hd.view_39 []) mean mg mb h₀) (hl : h₀.IsList l vs.toArray) (hI : IntsAre vs ns) (hlen : ns.length ≤ 63) (hdp : dp + 40 < recursionLimit) (hun : un + 400 < cLine)
    (hret : ∀ m' news' h' tk', Fr h₀ L h' m' → News h₀ L h' news' → (Mfix m' l x.T x.R x.S x.Li x.Rf ∧ Dy x stay news') → Q .next { s with heap := h', toks := tk' }) :
    ∀ (k i : Nat) (m : Str → Option Value) (news : List (Addr × Obj)), i + k = 15 → Mfix m l x.T x.R x.S x.Li x.Rf → Dy x stay news →
      RangeRest PySem.Challenge.rw_nm0113_01.row.prog w (ktrTop dp un gd "law" lawScope L a ccd (LC c1 c2 c3 c4 c5 c6 c7) outer) E h₀ (envX "law" lawScope L a ccd (LC c1 c2 c3 c4 c5 c6 c7)) "k" turnBody Q s I 0 15 k i m news := by
  intro k
  induction k with
  | zero =>
    intro i m news _ hm hy
    exact RangeRest.zero fun h tk F N => hret m news h tk F N ⟨hm, hy⟩
  | succ k ih =>
    intro i m news hik hm hy
    refine RangeRest.succ fun t h tk F N => ?_
    have f := funL_of N
    have hy' : Dy x ((I, itR (0 + ((i + 1 : Nat) : Int)) ((15 : Nat) - ((i + 1 : Nat) : Int))) :: stay) ((I, itR (0 + ((i + 1 : Nat) : Int)) ((15 : Nat) - ((i + 1 : Nat) : Int))) :: news) := by
      obtain ⟨r0, r1, q0, q1, b0, b1, a0, a1, sub, hi0, hi1, hR, ha0, ha1, rest⟩ := hy
      refine ⟨r0, r1, q0, q1, b0, b1, a0, a1, fun p hp => ?_, .tail _ hi0, .tail _ hi1, .tail _ hR, .tail _ ha0, .tail _ ha1, rest⟩
      rcases List.mem_cons.mp hp with rfl | hp
      · exact .head _
      · exact .tail _ (sub p hp)
    have hx' : FxOk w c5 c6 x ((I, itR (0 + ((i + 1 : Nat) : Int)) ((15 : Nat) - ((i + 1 : Nat) : Int))) :: stay) := by
      obtain ⟨r0, r1, q0, q1, b0, b1, a0, a1, sub, hi0, hi1, hR, _⟩ := hy
      exact hx.cons ⟨it_ne f (.head _) (.tail _ hi0), it_ne f (.head _) (.tail _ hi1), it_ne f (.head _) (.tail _ hR)⟩
    refine turn_all (ns := ns) (l := l) (c1 := c1) (c2 := c2) (c3 := c3) (c4 := c4) (c7 := c7) (k := 0 + (i : Int)) (tk := t) (m := setL "k" (.int (0 + (i : Int)) t) m) hx' hm rfl (by omega) (by omega) hy' vs mean mg mb dp un gd a ccd outer A₀ h₀ L { s with heap := h, toks := tk } _ E B F X N T hl hI hlen hdp hun ?_
    rintro m' n' h' tk' F' N' ⟨hm', r0, r1, q0, q1, b0, b1, a0, a1, sub, hi0, hi1, hR, ha0, ha1, na0, na1, cr0, cr1, z0, z1⟩
    have f' := funL_of N'
    have hIt := sub _ (List.Mem.head _)
    refine UnrEnd.intro F' N' ((x.i0, listOf r0.toArray q0) :: (x.i1, listOf r1.toArray q1) :: (x.R, listOf [.ref a0, .ref a1].toArray x.cR) :: (a0, listOf r0.toArray b0) :: (a1, listOf r1.toArray b1) :: stay) ?_ ?_
      (ih (i + 1) m' _ (by omega) hm' ⟨r0, r1, q0, q1, b0, b1, a0, a1, fun p hp => .tail _ (.tail _ (.tail _ (.tail _ (.tail _ hp)))), .head _, .tail _ (.head _), .tail _ (.tail _ (.head _)), .tail _ (.tail _ (.tail _ (.head _))), .tail _ (.tail _ (.tail _ (.tail _ (.head _)))), na0, na1, cr0, cr1, z0, z1⟩)
    · intro p hp
      simp only [List.mem_cons] at hp
      rcases hp with rfl | rfl | rfl | rfl | rfl | rfl | hp
      · exact hIt
      · exact hi0
      · exact hi1
      · exact hR
      · exact ha0
      · exact ha1
      · exact sub p (.tail _ hp)
    · intro p hp
      simp only [List.mem_cons] at hp
      rcases hp with rfl | rfl | rfl | rfl | rfl | hp
      · exact (it_ne f' hIt hi0).symm
      · exact (it_ne f' hIt hi1).symm
      · exact (it_ne f' hIt hR).symm
      · exact (it_ne f' hIt ha0).symm
      · exact (it_ne f' hIt ha1).symm
      · intro e
        exact hrc p hp _ _ (f' p (sub p (.tail _ hp)) _ hIt e)
theorem loop_blk {w : World} {l : Addr} {ns : List Int} {c1 c2 c3 c4 c5 c6 c7 : Addr} {m : Str → Option Value} {news : List (Addr × Obj)} {stay : List (Addr × Obj)} {x : Fx} (hx : FxOk w c5 c6 x stay) (hrc : ∀ p ∈ stay, ∀ a b, p.2 ≠ itR a b) (hm : Mfix m l x.T x.R x.S x.Li x.Rf) (hy : Dy x stay news) :
    Blk w l ns (LC c1 c2 c3 c4 c5 c6 c7) (stAt lawBody 16) m news (fun m' n' => Mfix m' l x.T x.R x.S x.Li x.Rf ∧ Dy x stay n') := by
  refine' blk_lit ?e ?_
  case e => exact rfl
  unfold Blk
  intro vs mean mg mb dp un gd a ccd outer A₀ h₀ L s Q E B F X N T hl hI hlen hdp hun hret
  revert X; k_fill; intro X
  refine wpAny_noRaise ?_
  with_unfolding_all refine' For_invVF F ?k1 ?k2 ?_
  case k1 => exact rfl
  case k2 => exact rfl
  iterate 7 (walk1; (all_goals (try dsimp only)))
  rename IsRange _ _ _ _ _ _ _ _ => hR
  rename Fr _ _ _ _ => F'
  rename News _ _ _ _ => N'
  with_unfolding_all refine iter_rangeUnr (n := 15) (by rfl) hR (by decide) (by decide) F' N' ?_
  intro I l1
  exact rest_all hx hrc B X T hl hI hlen hdp hun (fun m' news' h' tk' F' N' o => hret m' news' h' tk' F' N' o) 15 0 _ _ rfl hm hy
end
theorem rs_j17_18 {M : Model} {A : Around} {E : Value → Shared → Prop} {env : Env} {s : Shared} {Q : Flow → Shared → Prop} (h : Q .next s) : wpAny M A (execs [] env) Q E s := by
  walk1
  exact h
section
open PySem.Spec PyProof.V
section
variable {M : Model} {A : Around} {E : Value → Shared → Prop} {s : Shared} {h₀ : Heap} {L a : Addr} {m : Str → Option Value} {cn : Str} {cs : Scope} {ccd : Value} {cl : List (Str × Addr)}
  {x : Str} {v : Value} {Q : Unit → Shared → Prop} {news : List (Addr × Obj)} {c : Addr} {o : Obj} {v₀ : Option Value}
theorem storeX_U (F : Fr h₀ L s.heap m) (N : News h₀ L s.heap news) (hc : cl.lookup x = some c) (hm : (c, o) ∈ news) (hd : o.data = .cell v₀)
    (h : ∀ h' o', Fr h₀ L h' m → News h₀ L h' (updL c o' news) → o'.data = .cell (some v) → Q () { s with heap := h' })
    (hk : cs.kind = .function := by rfl) (hx : (envX cn cs L a ccd cl).kindOf x = some .cell := by rfl) : wpAny M A (storeName (envX cn cs L a ccd cl) x v) Q E s := by
  have hmem := N (c, o) hm
  refine wpAny_storeName_cell hk hx hc ⟨o, hmem.1, hd⟩ fun h' hv hs => ?_
  obtain ⟨o', ho', hd'⟩ := hv
  refine h h' o' ⟨F.ns.sameBut hs (Ne.symm hmem.2.1), fun b ob e => (hs.2 b (fun q => ?_)).trans (F.keep b ob e), F.above⟩ (fun p hp => ?_) hd'
  · rw [q, hmem.2.2] at e; cases e
  · obtain ⟨q, hq, rfl⟩ := List.mem_map.mp hp
    by_cases e : q.1 = c
    · rw [if_pos e]; exact ⟨ho', hmem.2⟩
    · rw [if_neg e]; exact ⟨(hs.2 _ e).trans (N q hq).1, (N q hq).2⟩
end
end
local macro_rules | `(tactic| walk_at "storeName") => `(tactic| (k_here; k_dflt (refine' storeX_U ?F ?N ?c ?m ?d ?_ ?a ?b; (case a => rfl); (case b => rfl); (case F => k_asm); (case N => k_asm); (case c => rfl); (case m => k_mem); (case d => k_asm); k_whole); intro h' o' F' N' d'; (try dsimp only)))
section
open PySem.Spec PyProof.V
theorem head_3 {w : World} {l : Addr} {ns : List Int} {c1 c2 c3 c4 c5 c6 c7 : Addr} {m : Str → Option Value} {news : List (Addr × Obj)} {d : Int} {td : Tok} {o : Obj} {v0 : Option Value} (hd : m "first" = some (.int d td)) (hc : (c3, o) ∈ news) (ho : o.data = .cell v0) :
    Blk w l ns (LC c1 c2 c3 c4 c5 c6 c7) (stAt lawBody 3) m news (fun m' n' => ∃ x t o', m' = m ∧ n' = updL c3 o' news ∧ o'.data = .cell (some (.int x t)) ∧ 4 ≤ x ∧ x ≤ 8) := by
  refine' blk_lit ?e ?_
  case e => exact rfl
  unfold Blk
  intro vs mean mg mb dp un gd a ccd outer A₀ h₀ L s Q E B F X N T hl hI hlen hdp hun hret
  revert X; k_fill; intro X
  obtain ⟨f0, f1⟩ := fm d (b := 5) (by decide)
  repeat' (first | (k_unfold; (try dsimp only)) | (k_end; wrow_close) | (walk1; (all_goals (try dsimp only))) | (dsimp only; walk1) | fail "no step")
  all_goals exact hret _ _ _ _ (by k_asm) (by first | k_asm | exact news_sub (by assumption) (fun p hp => by first | exact hp | exact sub_drop2 p hp | exact sub_drop3 p hp | exact .tail _ hp | exact .tail _ (.tail _ hp) | exact .tail _ (.tail _ (.tail _ hp)) | exact .tail _ (.tail _ (.tail _ (.tail _ hp))))) ⟨_, _, _, rfl, rfl, by assumption, by omega, by omega⟩
theorem head_4 {w : World} {l : Addr} {ns : List Int} {c1 c2 c3 c4 c5 c6 c7 : Addr} {m : Str → Option Value} {news : List (Addr × Obj)} {d e : Int} {td te : Tok} {o o3 : Obj} {v0 : Option Value} (hd : m "first" = some (.int d td)) (hc3 : (c3, o3) ∈ news) (h3 : o3.data = .cell (some (.int e te))) (he : 4 ≤ e) (hc : (c4, o) ∈ news) (ho : o.data = .cell v0) :
    Blk w l ns (LC c1 c2 c3 c4 c5 c6 c7) (stAt lawBody 4) m news (fun m' n' => ∃ x y t u o' D, m' = m ∧ n' = updL c4 o' ((D, listOf [.int x t, .int y u].toArray 0) :: news) ∧ o'.data = .cell (some (.ref D)) ∧ 0 ≤ x ∧ x ≤ e ∧ 0 ≤ y ∧ y ≤ e ∧ ∀ p ∈ news, p.1 < D) := by
  refine' blk_lit ?e ?_
  case e => exact rfl
  unfold Blk
  intro vs mean mg mb dp un gd a ccd outer A₀ h₀ L s Q E B F X N T hl hI hlen hdp hun hret
  revert X; k_fill; intro X
  obtain ⟨f0, f1⟩ := fm (d.fdiv 5) (b := 3) (by decide)
  obtain ⟨f2, f3⟩ := fm (d.fdiv 15 + 1) (b := e + 1) (by omega)
  repeat' (first | (k_unfold; (try dsimp only)) | (k_end; wrow_close) | (walk1; (all_goals (try dsimp only))) | (dsimp only; walk1) | fail "no step")
  all_goals exact hret _ _ _ _ (by k_asm) (by first | k_asm | exact news_sub (by assumption) (fun p hp => by first | exact hp | exact sub_drop2 p hp | exact sub_drop3 p hp | exact .tail _ hp | exact .tail _ (.tail _ hp) | exact .tail _ (.tail _ (.tail _ hp)) | exact .tail _ (.tail _ (.tail _ (.tail _ hp))))) ⟨_, _, _, _, _, _, rfl, rfl, by assumption, by omega, by omega, by omega, by omega, by first | assumption | exact of_allLt (by assumption)⟩
section
local macro_rules | `(tactic| walk_at "call ref") => `(tactic| (k_here; k_dflt (show wpAny _ _ (call (Value.ref 192) _) _ _ _); k_dflt (refine' digit_call (fun x' h' tk' t' F' N' => ?_)); (try dsimp only)))
theorem head_0 {w : World} {l : Addr} {ns : List Int} {c1 c2 c3 c4 c5 c6 c7 : Addr} {m : Str → Option Value} {news : List (Addr × Obj)} (hs : m "script" = some (.ref l)) :
    Blk w l ns (LC c1 c2 c3 c4 c5 c6 c7) (stAt lawBody 0) m news (fun m' n' => ∃ x t, m' = setL "first" (.int x t) m ∧ n' = news) := by
  refine' blk_lit ?e ?_
  case e => exact rfl
  unfold Blk
  intro vs mean mg mb dp un gd a ccd outer A₀ h₀ L s Q E B F X N T hl hI hlen hdp hun hret
  revert X; k_fill; intro X
  repeat' (first | (k_unfold; (try dsimp only)) | (k_end; wrow_close) | (walk1; (all_goals (try dsimp only))) | (dsimp only; walk1) | fail "no step")
  all_goals exact hret _ _ _ _ (by k_asm) (by first | k_asm | exact news_sub (by assumption) (fun p hp => by first | exact hp | exact sub_drop2 p hp | exact sub_drop3 p hp | exact .tail _ hp | exact .tail _ (.tail _ hp) | exact .tail _ (.tail _ (.tail _ hp)) | exact .tail _ (.tail _ (.tail _ (.tail _ hp))))) ⟨_, _, rfl, rfl⟩
theorem head_1 {w : World} {l : Addr} {ns : List Int} {c1 c2 c3 c4 c5 c6 c7 : Addr} {m : Str → Option Value} {news : List (Addr × Obj)} {o : Obj} {v0 : Option Value} (hs : m "script" = some (.ref l)) (hc : (c1, o) ∈ news) (ho : o.data = .cell v0) :
    Blk w l ns (LC c1 c2 c3 c4 c5 c6 c7) (stAt lawBody 1) m news (fun m' n' => ∃ x t o', m' = m ∧ n' = updL c1 o' news ∧ o'.data = .cell (some (.int x t))) := by
  refine' blk_lit ?e ?_
  case e => exact rfl
  unfold Blk
  intro vs mean mg mb dp un gd a ccd outer A₀ h₀ L s Q E B F X N T hl hI hlen hdp hun hret
  revert X; k_fill; intro X
  repeat' (first | (k_unfold; (try dsimp only)) | (k_end; wrow_close) | (walk1; (all_goals (try dsimp only))) | (dsimp only; walk1) | fail "no step")
  all_goals exact hret _ _ _ _ (by k_asm) (by first | k_asm | exact news_sub (by assumption) (fun p hp => by first | exact hp | exact sub_drop2 p hp | exact sub_drop3 p hp | exact .tail _ hp | exact .tail _ (.tail _ hp) | exact .tail _ (.tail _ (.tail _ hp)) | exact .tail _ (.tail _ (.tail _ (.tail _ hp))))) ⟨_, _, _, rfl, rfl, by assumption⟩
theorem head_2 {w : World} {l : Addr} {ns : List Int} {c1 c2 c3 c4 c5 c6 c7 : Addr} {m : Str → Option Value} {news : List (Addr × Obj)} {o : Obj} {v0 : Option Value} (hs : m "script" = some (.ref l)) (hc : (c2, o) ∈ news) (ho : o.data = .cell v0) :
    Blk w l ns (LC c1 c2 c3 c4 c5 c6 c7) (stAt lawBody 2) m news (fun m' n' => ∃ x t o', m' = m ∧ n' = updL c2 o' news ∧ o'.data = .cell (some (.int x t))) := by
  refine' blk_lit ?e ?_
  case e => exact rfl
  unfold Blk
  intro vs mean mg mb dp un gd a ccd outer A₀ h₀ L s Q E B F X N T hl hI hlen hdp hun hret
  revert X; k_fill; intro X
  repeat' (first | (k_unfold; (try dsimp only)) | (k_end; wrow_close) | (walk1; (all_goals (try dsimp only))) | (dsimp only; walk1) | fail "no step")
  all_goals exact hret _ _ _ _ (by k_asm) (by first | k_asm | exact news_sub (by assumption) (fun p hp => by first | exact hp | exact sub_drop2 p hp | exact sub_drop3 p hp | exact .tail _ hp | exact .tail _ (.tail _ hp) | exact .tail _ (.tail _ (.tail _ hp)) | exact .tail _ (.tail _ (.tail _ (.tail _ hp))))) ⟨_, _, _, rfl, rfl, by assumption⟩
end
end
theorem rs_j18_19 {M : Model} {A : Around} {E : Value → Shared → Prop} {env : Env} {s : Shared} {Q : Flow → Shared → Prop} (h : Q .next s) : wpAny M A (execs [] env) Q E s := by
  walk1
  exact h
section
open PySem.Spec PyProof.V
theorem pick1 {x0 x1 x2 x3 x4 x5 x6 : Value} : (slicePick [x0, x1, x2, x3, x4, x5, x6].toArray none (some 4) none).toList = [x0, x1, x2, x3] := by rfl
theorem pb : sliceBounds (some 4) none none 7 = (4, 7, 1) := by decide +kernel
theorem pr : sliceRange 4 7 1 = [4, 5, 6] := by decide +kernel
theorem pick2 {x0 x1 x2 x3 x4 x5 x6 : Value} : (slicePick [x0, x1, x2, x3, x4, x5, x6].toArray (some 4) none none).toList = [x4, x5, x6] := by
  unfold slicePick
  have e : [x0, x1, x2, x3, x4, x5, x6].toArray.size = 7 := rfl
  rw [e, pb]
  show ((sliceRange 4 7 1).filterMap _).toArray.toList = _
  rw [pr]
  rfl
section
variable {prog : Program} {w : World} {A : Around} {E : Value → Shared → Prop} {s : Shared} {h₀ : Heap} {L l : Addr} {m : Str → Option Value} {news : List (Addr × Obj)} {its zs : List Value} {n : Nat}
theorem lst_part {h₁ : Heap} {tk : Nat} {vl vu : Value} {lo hi : Option Int} {value slice : Expr} {Q : Value → Shared → Prop}
    (h : ∀ D h', Fr h₀ L h' m → News h₀ L h' ((D, listOf zs.toArray 0) :: news) → (∀ p ∈ news, p.1 < D) → Q (.ref D) { heap := h', gens := s.gens, drawn := s.drawn, toks := tk, os := s.os })
    (F : Fr h₀ L h₁ m := by k_asm) (N : News h₀ L h₁ news := by k_asm) (hi' : (l, listOf its.toArray n) ∈ news := by k_mem) (pl : IsPart vl lo := by first | exact .none | exact .int _ _) (pu : IsPart vu hi := by first | exact .none | exact .int _ _) (e : (slicePick its.toArray lo hi none).toList = zs := by first | exact pick1 | exact pick2) (hz : its.length ≤ 1000 := by simp)
    (hs : subscripted slice false (.ref l) (.ref h₁.objs.size) = operate [.ref h₁.objs.size, .ref l] (getItem (.ref l) (.ref h₁.objs.size)) := by with_unfolding_all rfl) (ht : ∀ r, letTemporaryGo value (.ref l) r = pure () := by intro _; with_unfolding_all rfl) :
    wpAny (model prog w) A (subscriptTail value slice (.ref l) (.ref h₁.objs.size)) Q E { heap := h₁.push { cls := .type "slice", data := .fields #[vl, vu, .none] }, gens := s.gens, drawn := s.drawn, toks := tk, os := s.os } :=
  kmk_slice_lit (s := { heap := h₁, gens := s.gens, drawn := s.drawn, toks := tk, os := s.os }) F N (isL (s := { heap := h₁, gens := s.gens, drawn := s.drawn, toks := tk, os := s.os }) N hi') pl pu e h hs ht (by rw [List.size_toArray, sizeLine_eq]; omega)
end
def BlkR (w : World) (l : Addr) (ns : List Int) (cl : List (Str × Addr)) (st : Stmt) (m : Str → Option Value) (news : List (Addr × Obj)) : Prop :=
  ∀ (vs : List Value) (mean : ExcName → Option Value) (mg mb : Str → Option Value) (dp un : Nat) (gd : Option (List Code)) (a : Addr) (ccd : Value) (outer : List Env) (A₀ : Around) (h₀ : Heap) (L : Addr) (s : Shared) (Q : Flow → Shared → Prop) (E : Value → Shared → Prop),
    Below A₀ h₀ outer h₀ → Fr h₀ L s.heap m → (Mine.hd.heap_39 w.params).In h₀ → News h₀ L s.heap news → Top Mine.hd.view_39 (looseW Mine.hd.view_39 []) mean mg mb h₀ → h₀.IsList l vs.toArray → IntsAre vs ns → ns.length ≤ 63 → dp + 40 < recursionLimit → un + 400 < cLine →
    (∀ m' news' h' tk', Fr h₀ L h' m' → News h₀ L h' news' → Q (.ret (.bool true)) { s with heap := h', toks := tk' }) →
    wpAny (model PySem.Challenge.rw_nm0113_01.row.prog w) (ktrTop dp un gd "law" lawScope L a ccd cl outer) (exec st (envX "law" lawScope L a ccd cl)) Q E s
theorem blkR_lit {w : World} {l : Addr} {ns : List Int} {cl : List (Str × Addr)} {b r : List Stmt} {i : Nat} {s : Stmt} {m : Str → Option Value} {news : List (Addr × Obj)}
    (e : b.drop i = s :: r) (h : BlkR w l ns cl s m news) : BlkR w l ns cl (stAt b i) m news := stAt_is e ▸ h
local macro_rules | `(tactic| walk_at "subscriptTail Name Slice ref ref") => `(tactic| (k_here; k_dflt (refine' lst_part ?_); intro D' h' F' N' l1; (have l9 := l1); (try k_lt l9); (try dsimp only)))
theorem head_10 {w : World} {l : Addr} {ns : List Int} {c1 c2 c3 c4 c5 c6 c7 : Addr} {m : Str → Option Value} {news : List (Addr × Obj)} {Rf : Addr} {cR : Nat} {x0 x1 x2 x3 x4 x5 x6 : Value} (hd : m "refs" = some (.ref Rf)) (hR : (Rf, listOf [x0, x1, x2, x3, x4, x5, x6].toArray cR) ∈ news) :
    Blk w l ns (LC c1 c2 c3 c4 c5 c6 c7) (stAt lawBody 10) m news (fun m' n' => ∃ S D0 D1, m' = setL "segments" (.ref S) m ∧ n' = (S, listOf [.ref D0, .ref D1, .none].toArray 0) :: (D1, listOf [x4, x5, x6].toArray 0) :: (D0, listOf [x0, x1, x2, x3].toArray 0) :: news) := by
  refine' blk_lit ?e ?_
  case e => exact rfl
  unfold Blk
  intro vs mean mg mb dp un gd a ccd outer A₀ h₀ L s Q E B F X N T hl hI hlen hdp hun hret
  revert X; k_fill; intro X
  repeat' (first | (k_unfold; (try dsimp only)) | (k_end; wrow_close) | (walk1; (all_goals (try dsimp only))) | (dsimp only; walk1) | fail "no step")
  all_goals exact hret _ _ _ _ (by k_asm) (by first | k_asm | exact news_sub (by assumption) (fun p hp => by first | exact hp | exact sub_drop2 p hp | exact sub_drop3 p hp | exact .tail _ hp | exact .tail _ (.tail _ hp) | exact .tail _ (.tail _ (.tail _ hp)) | exact .tail _ (.tail _ (.tail _ (.tail _ hp))))) ⟨_, _, _, rfl, rfl⟩
local macro_rules | `(tactic| walk_at "compareOp Eq ref ref") => `(tactic| (k_here; k_dflt (refine' eq_segs ?_); (try dsimp only)))
theorem head_17 {w : World} {l : Addr} {ns : List Int} {c1 c2 c3 c4 c5 c6 c7 : Addr} {m : Str → Option Value} {news : List (Addr × Obj)} {Rf S g0 g1 : Addr} {cR cS c0' c1' : Nat} {x0 x1 x2 x3 x4 x5 x6 : Value} (hs : m "segments" = some (.ref S)) (hd : m "refs" = some (.ref Rf)) (hR : (Rf, listOf [x0, x1, x2, x3, x4, x5, x6].toArray cR) ∈ news)
    (hS : (S, listOf [.ref g0, .ref g1, .none].toArray cS) ∈ news) (h0 : (g0, listOf [x0, x1, x2, x3].toArray c0') ∈ news) (h1 : (g1, listOf [x4, x5, x6].toArray c1') ∈ news)
    (cu : ∀ x ∈ [x0, x1, x2, x3], Cell x) (cv : ∀ x ∈ [x4, x5, x6], Cell x) :
    BlkR w l ns (LC c1 c2 c3 c4 c5 c6 c7) (stAt lawBody 17) m news := by
  refine' blkR_lit ?e ?_
  case e => exact rfl
  unfold BlkR
  intro vs mean mg mb dp un gd a ccd outer A₀ h₀ L s Q E B F X N T hl hI hlen hdp hun hret
  revert X; k_fill; intro X
  repeat' (first | (k_unfold; (try dsimp only)) | (k_end; wrow_close) | (walk1; (all_goals (try dsimp only))) | (dsimp only; walk1) | fail "no step")
  all_goals exact hret _ _ _ _ (by k_asm) (by k_asm)
end
theorem rs_j19_20 {M : Model} {A : Around} {E : Value → Shared → Prop} {env : Env} {s : Shared} {Q : Flow → Shared → Prop} (h : Q .next s) : wpAny M A (execs [] env) Q E s := by
  walk1
  exact h
section
open PySem.Spec PyProof.V
section
local macro_rules | `(tactic| walk_at "call ref") => `(tactic| (k_here; k_dflt (show wpAny _ _ (call (Value.ref 181) _) _ _ _); k_dflt (refine' tel_use (C := sizes_made) (ret := ?_)); intro r9 n9 h' tk' F' N' hO; obtain ⟨S9, d9, k1, k2, k3, k4, k5, pg, pgs, dp9, fu, e1, e2, l1, l2⟩ := hO; subst e1; subst e2; (try dsimp only)))
theorem head_11 {w : World} {l : Addr} {ns : List Int} {c1 c2 c3 c4 c5 c6 c7 : Addr} {m : Str → Option Value} {news : List (Addr × Obj)} {e : Int} {te : Tok} {o o3 : Obj} {v0 : Option Value} (hc3 : (c3, o3) ∈ news) (h3 : o3.data = .cell (some (.int e te))) (hc : (c7, o) ∈ news) (ho : o.data = .cell v0) :
    Blk w l ns (LC c1 c2 c3 c4 c5 c6 c7) (stAt lawBody 11) m news (fun m' n' => ∃ S d k1 k2 k3 k4 k5 pg pgs dp fu o', m' = m ∧ n' = updL c7 o' ((S, instObj 181 d) :: (d, SDict w k1 k2 k3 k4 k5 pg pgs (.int e te) dp fu) :: news) ∧ o'.data = .cell (some (.ref S)) ∧ d < S ∧ ∀ p ∈ news, p.1 < d) := by
  refine' blk_lit ?e ?_
  case e => exact rfl
  unfold Blk
  intro vs mean mg mb dp un gd a ccd outer A₀ h₀ L s Q E B F X N T hl hI hlen hdp hun hret
  revert X; k_fill; intro X
  repeat' (first | (k_unfold; (try dsimp only)) | (k_end; wrow_close) | (walk1; (all_goals (try dsimp only))) | (dsimp only; walk1) | fail "no step")
  all_goals exact hret _ _ _ _ (by k_asm) (by first | k_asm | exact news_sub (by assumption) (fun p hp => by first | exact hp | exact sub_drop2 p hp | exact sub_drop3 p hp | exact .tail _ hp | exact .tail _ (.tail _ hp) | exact .tail _ (.tail _ (.tail _ hp)) | exact .tail _ (.tail _ (.tail _ (.tail _ hp))))) ⟨_, _, _, _, _, _, _, _, _, _, _, _, rfl, rfl, by assumption, by assumption, by assumption⟩
end
theorem rs_H4_21 {M : Model} {A : Around} {E : Value → Shared → Prop} {env : Env} {s : Shared} {Q : Flow → Shared → Prop} (h : Q .next s) : wpAny M A (execs [] env) Q E s := by
  walk1
  exact h
section
local macro_rules | `(tactic| walk_at "call ref") => `(tactic| (k_here; k_dflt (show wpAny _ _ (call (Value.ref 232) _) _ _ _); k_dflt (refine' telT_use (C := refused_tel (hs := by k_mem) (hds := by k_mem) (h1 := by omega)) (ret := ?_)); intro r9 n9 h' tk' F' N' hO; obtain ⟨e1, e2⟩ := hO; subst e1; subst e2; (try dsimp only)))
theorem head_12 {w : World} {l : Addr} {ns : List Int} {c1 c2 c3 c4 c5 c6 c7 : Addr} {m : Str → Option Value} {news : List (Addr × Obj)} {e th : Int} {te tt : Tok} {o2 o3 o6 o7 : Obj} {Kl S ds : Addr} {k1 k2 k3 k4 k5 : Tok} {pg pgs dp fu kd0 kd1 : Value} {cK : Nat}
    (hc2 : (c2, o2) ∈ news) (h2 : o2.data = .cell (some (.int th tt))) (hc3 : (c3, o3) ∈ news) (h3 : o3.data = .cell (some (.int e te))) (hc6 : (c6, o6) ∈ news) (h6 : o6.data = .cell (some (.ref Kl))) (hc7 : (c7, o7) ∈ news) (h7 : o7.data = .cell (some (.ref S)))
    (hK : (Kl, listOf [kd0, kd1].toArray cK) ∈ news) (hs : (S, instObj 181 ds) ∈ news) (hds : (ds, SDict w k1 k2 k3 k4 k5 pg pgs (.int e te) dp fu) ∈ news) (he : 0 ≤ e) (he8 : e ≤ 8) :
    Blk w l ns (LC c1 c2 c3 c4 c5 c6 c7) (stAt lawBody 12) m news (fun m' n' => m' = m ∧ n' = news) := by
  refine' blk_lit ?e ?_
  case e => exact rfl
  unfold Blk
  intro vs mean mg mb dp un gd a ccd outer A₀ h₀ L s Q E B F X N T hl hI hlen hdp hun hret
  revert X; k_fill; intro X
  repeat' (first | (k_unfold; (try dsimp only)) | (k_end; wrow_close) | (walk1; (all_goals (try dsimp only))) | (dsimp only; walk1) | fail "no step")
  all_goals exact hret _ _ _ _ (by k_asm) (by first | k_asm | exact news_sub (by assumption) (fun p hp => by first | exact hp | exact sub_drop2 p hp | exact sub_drop3 p hp | exact .tail _ hp | exact .tail _ (.tail _ hp) | exact .tail _ (.tail _ (.tail _ hp)) | exact .tail _ (.tail _ (.tail _ (.tail _ hp))))) ⟨rfl, rfl⟩
end
theorem rs_H4_22 {M : Model} {A : Around} {E : Value → Shared → Prop} {env : Env} {s : Shared} {Q : Flow → Shared → Prop} (h : Q .next s) : wpAny M A (execs [] env) Q E s := by
  walk1
  exact h
section
local macro_rules | `(tactic| walk_at "call ref") => `(tactic| (k_here; k_dflt (show wpAny _ _ (call (Value.ref 239) _) _ _ _); k_dflt (refine' telA_use ?_); intro r9 n9 h' tk' F' N' hO; obtain ⟨e1, e2⟩ := hO; subst e1; subst e2; (try dsimp only)))
theorem head_15 {w : World} {l : Addr} {ns : List Int} {c1 c2 c3 c4 c5 c6 c7 : Addr} {m : Str → Option Value} {news : List (Addr × Obj)} {T R Kl Ml : Addr} {o5 o6 : Obj}
    (hT : m "tables" = some (.ref T)) (hR : m "rows" = some (.ref R)) (hK : (c6, o6) ∈ news) (hKd : o6.data = .cell (some (.ref Kl))) (hM : (c5, o5) ∈ news) (hMd : o5.data = .cell (some (.ref Ml)))
    (C : Tel w 239 20 200 [.ref T, .ref R, .ref Kl, .ref Ml] news (fun r n => r = .bool true ∧ n = news)) :
    Blk w l ns (LC c1 c2 c3 c4 c5 c6 c7) (stAt lawBody 15) m news (fun m' n' => m' = m ∧ n' = news) := by
  refine' blk_lit ?e ?_
  case e => exact rfl
  unfold Blk
  intro vs mean mg mb dp un gd a ccd outer A₀ h₀ L s Q E B F X N T hl hI hlen hdp hun hret
  revert X; k_fill; intro X
  repeat' (first | (k_unfold; (try dsimp only)) | (k_end; wrow_close) | (walk1; (all_goals (try dsimp only))) | (dsimp only; walk1) | fail "no step")
  all_goals exact hret _ _ _ _ (by k_asm) (by first | k_asm | exact news_sub (by assumption) (fun p hp => by first | exact hp | exact sub_drop2 p hp | exact sub_drop3 p hp | exact .tail _ hp | exact .tail _ (.tail _ hp) | exact .tail _ (.tail _ (.tail _ hp)) | exact .tail _ (.tail _ (.tail _ (.tail _ hp))))) ⟨rfl, rfl⟩
end
end
theorem rs_j20_23 {M : Model} {A : Around} {E : Value → Shared → Prop} {env : Env} {s : Shared} {Q : Flow → Shared → Prop} (h : Q .next s) : wpAny M A (execs [] env) Q E s := by
  walk1
  exact h
section
open PySem.Spec PyProof.V
def AllP (Pr : Nat → Value → Prop) (i : Nat) (ys : List Value) : Prop := ys.length = i ∧ ∀ j y, ys[j]? = some y → Pr j y
theorem AllP.nil {Pr : Nat → Value → Prop} : AllP Pr 0 [] := ⟨rfl, fun j y h => by simp at h⟩
theorem AllP.snoc {Pr : Nat → Value → Prop} {i : Nat} {ys : List Value} {y : Value} (h : AllP Pr i ys) (hy : Pr i y) : AllP Pr (i + 1) (ys ++ [y]) := by
  refine ⟨by rw [List.length_append, h.1]; rfl, fun j z hz => ?_⟩
  by_cases hj : j < ys.length
  · rw [List.getElem?_append_left hj] at hz; exact h.2 j z hz
  · rw [List.getElem?_append_right (by omega)] at hz
    have e : j - ys.length = 0 := by
      by_cases e : j - ys.length = 0
      · exact e
      · rw [List.getElem?_eq_none (by simp only [List.length_singleton]; omega)] at hz; cases hz
    rw [e] at hz
    obtain rfl : y = z := Option.some.inj hz
    have : j = i := by have := h.1; omega
    exact this ▸ hy
theorem AllP.two {Pr : Nat → Value → Prop} {ys : List Value} (h : AllP Pr 2 ys) : ∃ a b, ys = [a, b] ∧ Pr 0 a ∧ Pr 1 b := by
  obtain ⟨hl, h⟩ := h
  match ys, hl with
  | [a, b], _ => exact ⟨a, b, rfl, h 0 a rfl, h 1 b rfl⟩
theorem AllP.seven {Pr : Value → Prop} {ys : List Value} (h : AllP (fun _ => Pr) 7 ys) : ∃ a b c d e f g, ys = [a, b, c, d, e, f, g] ∧ ∀ y ∈ ys, Pr y := by
  obtain ⟨hl, h⟩ := h
  have hm : ∀ y ∈ ys, Pr y := fun y hy => by
    obtain ⟨j, hj⟩ := List.getElem?_of_mem hy
    exact h j y hj
  match ys, hl with
  | [a, b, c, d, e, f, g], _ => exact ⟨a, b, c, d, e, f, g, rfl, hm⟩
section
variable {prog : Program} {w : World} {A : Around} {h₀ : Heap} {L : Addr} {m : Str → Option Value} {env : Env} {elt : Expr} {x : Str} {scope : Scope} {cl : List (Str × Addr)} {s : Shared} {Fin : List Value → List (Addr × Obj) → Prop}
theorem comp_inv {n : Nat} {S : List (Addr × Obj) → Prop} {P : Nat → Value → Prop} (J : Nat → List Value → List (Addr × Obj) → Prop)
    (turn : ∀ (i : Nat) ys news v I oI C oC D m₂ h tk (E' : Value → Shared → Prop), i < n → P i v → J i ys news → LCg.NsObj oC m₂ → m₂ x = some v → Fr h₀ L h m → News h₀ L h ((I, oI) :: (C, oC) :: (D, LCg.lst ys) :: news) → LCg.Off3 I C D news → ((@Ne Nat I C) ∧ (@Ne Nat I D) ∧ (@Ne Nat C D)) →
      wpAny (model prog w) A (eval elt (compEnvC scope cl C env)) (LCg.CompEnd h₀ L m { s with heap := h, toks := tk } I oI C oC D (LCg.lst ys) S (fun y news' => J (i + 1) (ys ++ [y]) news')) E' { s with heap := h, toks := tk })
    (fin : ∀ ys news, J n ys news → Fin ys news) : ∀ (k i : Nat) (ys : List Value) (news : List (Addr × Obj)), i + k = n → J i ys news → LCg.CompRest prog w A h₀ L m env elt x scope cl s S P Fin k i ys news := by
  intro k
  induction k with
  | zero =>
    intro i ys news hi hJ
    obtain rfl : i = n := by omega
    exact LCg.CompRest.zero (fin ys news hJ)
  | succ k ih =>
    intro i ys news hi hJ
    refine LCg.CompRest.succ ?_
    intro v I oI C oC D m₂ h tk E' hv hC hx F N off ne
    refine wpAny_mono (turn i ys news v I oI C oC D m₂ h tk E' (by omega) hv hJ hC hx F N off ne) (fun y s₂ hq => ?_) fun _ _ e => e
    obtain ⟨h', tk', nw, e, F', N', off', hS, hy⟩ := hq
    exact ⟨h', tk', nw, e, F', N', off', hS, ih (i + 1) _ _ (by omega) hy⟩
end
section
variable {prog : Program} {w : World} {A : Around} {E : Value → Shared → Prop} {s : Shared} {h₀ : Heap} {L l : Addr} {m : Str → Option Value} {news : List (Addr × Obj)} {n : Nat} {k : Int} {u : Tok} {value slice : Expr} {Q : Value → Shared → Prop} {a b c d : Value}
theorem lst_get4 (h : Q ([a, b, c, d].getD k.toNat .none) s) (N : News h₀ L s.heap news := by k_asm) (hi : (l, listOf [a, b, c, d].toArray n) ∈ news := by k_mem) (h0 : 0 ≤ k := by first | assumption | omega) (hf : k < 4 := by first | assumption | omega)
    (hs : subscripted slice false (.ref l) (.int k u) = operate [.ref l, .int k u] (getItem (.ref l) (.int k u)) := by with_unfolding_all rfl) (hg : ∀ r, letTemporaryGo value (.ref l) r = pure () := by intro _; with_unfolding_all rfl) :
    wpAny (model prog w) A (subscriptTail value slice (.ref l) (.int k u)) Q E s := lst_getD h N hi h0 (by show k < ((4 : Nat) : Int); omega) (by show ((4 : Nat)) ≤ 100; decide) hs hg
theorem lst_get2 (h : Q ([a, b].getD k.toNat .none) s) (N : News h₀ L s.heap news := by k_asm) (hi : (l, listOf [a, b].toArray n) ∈ news := by k_mem) (h0 : 0 ≤ k := by first | assumption | omega) (hf : k < 2 := by first | assumption | omega)
    (hs : subscripted slice false (.ref l) (.int k u) = operate [.ref l, .int k u] (getItem (.ref l) (.int k u)) := by with_unfolding_all rfl) (hg : ∀ r, letTemporaryGo value (.ref l) r = pure () := by intro _; with_unfolding_all rfl) :
    wpAny (model prog w) A (subscriptTail value slice (.ref l) (.int k u)) Q E s := lst_getD h N hi h0 (by show k < ((2 : Nat) : Int); omega) (by show ((2 : Nat)) ≤ 100; decide) hs hg
end
theorem getD4 {Pr : Value → Prop} {a b c d : Value} {k : Int} (h0 : 0 ≤ k) (h1 : k < 4) (ha : Pr a) (hb : Pr b) (hc : Pr c) (hd : Pr d) : Pr ([a, b, c, d].getD k.toNat .none) := by
  have h : k = 0 ∨ k = 1 ∨ k = 2 ∨ k = 3 := by omega
  rcases h with rfl | rfl | rfl | rfl
  · exact ha
  · exact hb
  · exact hc
  · exact hd
theorem getD2 {Pr : Value → Prop} {a b : Value} {k : Int} (h0 : 0 ≤ k) (h1 : k < 2) (ha : Pr a) (hb : Pr b) : Pr ([a, b].getD k.toNat .none) := by
  have h : k = 0 ∨ k = 1 := by omega
  rcases h with rfl | rfl
  · exact ha
  · exact hb
local macro_rules | `(tactic| walk_at "subscriptTail") => `(tactic| (k_here; (with_reducible show wpAny _ _ (subscriptTail _ _ (Value.ref _) (Value.int _ _)) _ _ _); k_dflt (first | refine' lst_get ?_ | refine' lst_get4 ?_ | refine' lst_get2 ?_); (try dsimp only)))
def MoO (x : Int) (v : Value) : Prop := v = .none ∨ ∃ z t, v = .int z t ∧ x ≤ z
theorem head_5 {w : World} {l : Addr} {ns : List Int} {c1 c2 c3 c4 c5 c6 c7 : Addr} {m : Str → Option Value} {news : List (Addr × Obj)} {th x y : Int} {tt t u : Tok} {o2 o4 o5 : Obj} {v0 : Option Value} {Ll : Addr} {cL : Nat} (hc2 : (c2, o2) ∈ news) (h2 : o2.data = .cell (some (.int th tt))) (hc4 : (c4, o4) ∈ news) (h4 : o4.data = .cell (some (.ref Ll))) (hL : (Ll, listOf [.int x t, .int y u].toArray cL) ∈ news) (hx : x ≤ 8) (hy : y ≤ 8) (hc5 : (c5, o5) ∈ news) (h5 : o5.data = .cell v0) :
    Blk w l ns (LC c1 c2 c3 c4 c5 c6 c7) (stAt lawBody 5) m news (fun m' n' => ∃ o' D a b c, m' = m ∧ n' = updL c5 o' ((D, listOf [a, b].toArray c) :: news) ∧ o'.data = .cell (some (.ref D)) ∧ MoO x a ∧ MoO y b ∧ ∀ p ∈ news, p.1 ≠ D) := by
  refine' blk_lit ?e ?_
  case e => exact rfl
  unfold Blk
  intro vs mean mg mb dp un gd a ccd outer A₀ h₀ L s Q E B F X N T hl hI hlen hdp hun hret
  revert X; k_fill; intro X
  refine wpAny_noRaise ?_
  iterate 1 (walk1; (all_goals (try dsimp only)))
  k_dflt (refine LCg.ListComp_U (F₀ := by k_asm) (by with_unfolding_all rfl) (by decide) (by rfl) (by decide) (by rfl) ?_)
  iterate 7 (walk1; (all_goals (try dsimp only)))
  rename IsRange _ _ _ _ _ _ _ _ => hR9
  rename Fr _ _ _ _ => F9
  rename News _ _ _ _ => N9
  refine LCg.CompSrc.range (n := 2) (by rfl) F9 N9 hR9 (by decide) (by decide) (by rw [PySem.sizeLine_eq]; decide) (fun g9 => comp_inv (n := 2) (fun i ys nw => AllP (fun i => MoO ([x, y].getD i 0)) i ys ∧ nw = news) (fun i ys nw v I oI C oC D m₂ h9 tk9 E' hi hv hJ hC hx' F N off ne => ?_) (fun ys nw hJ => ?_) 2 0 [] _ rfl ?_)
  · obtain ⟨t9, rfl⟩ := hv
    obtain ⟨hP, rfl⟩ := hJ
    have hi' : i = 0 ∨ i = 1 := by omega
    rcases hi' with rfl | rfl
    · change m₂ "j" = some (.int 0 t9) at hx'
      obtain ⟨f0, f1⟩ := fm (th.fdiv (4 ^ Int.toNat 0)) (b := 4) (by decide)
      dsimp only
      repeat' (first | (k_unfold; (try dsimp only)) | ((first | (with_reducible show wpAny _ _ _ _ _ _) | (with_reducible show ite _ _ _) | (with_reducible show And _ _)); walk1; (all_goals (try dsimp only))))
      all_goals exact LCg.CompEnd.intro (by k_asm) (by k_asm) nw (fun p hp => .tail _ hp) off trivial ⟨hP.snoc (getD4 (Pr := MoO x) f0 f1 (.inl rfl) (.inr ⟨_, _, rfl, Int.le_refl _⟩) (.inr ⟨_, _, rfl, by omega⟩) (.inr ⟨_, _, rfl, by omega⟩)), rfl⟩
    · change m₂ "j" = some (.int 1 t9) at hx'
      obtain ⟨f0, f1⟩ := fm (th.fdiv (4 ^ Int.toNat 1)) (b := 4) (by decide)
      dsimp only
      repeat' (first | (k_unfold; (try dsimp only)) | ((first | (with_reducible show wpAny _ _ _ _ _ _) | (with_reducible show ite _ _ _) | (with_reducible show And _ _)); walk1; (all_goals (try dsimp only))))
      all_goals exact LCg.CompEnd.intro (by k_asm) (by k_asm) nw (fun p hp => .tail _ hp) off trivial ⟨hP.snoc (getD4 (Pr := MoO y) f0 f1 (.inl rfl) (.inr ⟨_, _, rfl, Int.le_refl _⟩) (.inr ⟨_, _, rfl, by omega⟩) (.inr ⟨_, _, rfl, by omega⟩)), rfl⟩
  · obtain ⟨hP, rfl⟩ := hJ
    obtain ⟨v0', v1', rfl, p0, p1⟩ := hP.two
    unfold LCg.FinE
    intro D' h' tk F' N' o1
    dsimp only
    repeat' (first | (k_unfold; (try dsimp only)) | ((first | (with_reducible show wpAny _ _ _ _ _ _) | (with_reducible show ite _ _ _) | (with_reducible show And _ _)); walk1; (all_goals (try dsimp only))))
    all_goals exact hret _ _ _ _ (by k_asm) (by first | k_asm | exact news_sub (by assumption) (fun p hp => by first | exact hp | exact sub_drop2 p hp | exact sub_drop3 p hp | exact .tail _ hp | exact .tail _ (.tail _ hp) | exact .tail _ (.tail _ (.tail _ hp)) | exact .tail _ (.tail _ (.tail _ (.tail _ hp))))) ⟨_, _, _, _, _, rfl, rfl, by assumption, p0, p1, off1_all o1⟩
  · exact ⟨AllP.nil, rfl⟩
end
theorem rs_j21_24 {M : Model} {A : Around} {E : Value → Shared → Prop} {env : Env} {s : Shared} {Q : Flow → Shared → Prop} (h : Q .next s) : wpAny M A (execs [] env) Q E s := by
  walk1
  exact h
section
open PySem.Spec PyProof.V
local macro_rules | `(tactic| walk_at "subscriptTail") => `(tactic| (k_here; (with_reducible show wpAny _ _ (subscriptTail _ _ (Value.ref _) (Value.int _ _)) _ _ _); k_dflt (first | refine' lst_get ?_ | refine' lst_get4 ?_ | refine' lst_get2 ?_); (try dsimp only)))
theorem head_7 {w : World} {l : Addr} {ns : List Int} {c1 c2 c3 c4 c5 c6 c7 : Addr} {m : Str → Option Value} {news : List (Addr × Obj)} {th : Int} {tt : Tok} {o2 o6 : Obj} {v0 : Option Value} (hc2 : (c2, o2) ∈ news) (h2 : o2.data = .cell (some (.int th tt))) (hc6 : (c6, o6) ∈ news) (h6 : o6.data = .cell v0) :
    Blk w l ns (LC c1 c2 c3 c4 c5 c6 c7) (stAt lawBody 7) m news (fun m' n' => ∃ o' D a b c, m' = m ∧ n' = updL c6 o' ((D, listOf [a, b].toArray c) :: news) ∧ o'.data = .cell (some (.ref D)) ∧ Cell a ∧ Cell b ∧ ∀ p ∈ news, p.1 ≠ D) := by
  refine' blk_lit ?e ?_
  case e => exact rfl
  unfold Blk
  intro vs mean mg mb dp un gd a ccd outer A₀ h₀ L s Q E B F X N T hl hI hlen hdp hun hret
  revert X; k_fill; intro X
  refine wpAny_noRaise ?_
  iterate 1 (walk1; (all_goals (try dsimp only)))
  k_dflt (refine LCg.ListComp_U (F₀ := by k_asm) (by with_unfolding_all rfl) (by decide) (by rfl) (by decide) (by rfl) ?_)
  iterate 7 (walk1; (all_goals (try dsimp only)))
  rename IsRange _ _ _ _ _ _ _ _ => hR9
  rename Fr _ _ _ _ => F9
  rename News _ _ _ _ => N9
  refine LCg.CompSrc.range (n := 2) (by rfl) F9 N9 hR9 (by decide) (by decide) (by rw [PySem.sizeLine_eq]; decide) (fun g9 => comp_inv (n := 2) (fun i ys nw => AllP (fun _ => Cell) i ys ∧ nw = news) (fun i ys nw v I oI C oC D m₂ h9 tk9 E' hi hv hJ hC hx' F N off ne => ?_) (fun ys nw hJ => ?_) 2 0 [] _ rfl ?_)
  · obtain ⟨t9, rfl⟩ := hv
    obtain ⟨hP, rfl⟩ := hJ
    have hi' : i = 0 ∨ i = 1 := by omega
    rcases hi' with rfl | rfl
    · change m₂ "j" = some (.int 0 t9) at hx'
      obtain ⟨f0, f1⟩ := fm (th.fdiv (2 ^ Int.toNat (4 + 0))) (b := 2) (by decide)
      dsimp only
      repeat' (first | (k_unfold; (try dsimp only)) | ((first | (with_reducible show wpAny _ _ _ _ _ _) | (with_reducible show ite _ _ _) | (with_reducible show And _ _)); walk1; (all_goals (try dsimp only))))
      all_goals exact LCg.CompEnd.intro (by k_asm) (by k_asm) nw (fun p hp => .tail _ hp) off trivial ⟨hP.snoc (.inr ⟨_, _, rfl⟩), rfl⟩
    · change m₂ "j" = some (.int 1 t9) at hx'
      obtain ⟨f0, f1⟩ := fm (th.fdiv (2 ^ Int.toNat (4 + 1))) (b := 2) (by decide)
      dsimp only
      repeat' (first | (k_unfold; (try dsimp only)) | ((first | (with_reducible show wpAny _ _ _ _ _ _) | (with_reducible show ite _ _ _) | (with_reducible show And _ _)); walk1; (all_goals (try dsimp only))))
      all_goals exact LCg.CompEnd.intro (by k_asm) (by k_asm) nw (fun p hp => .tail _ hp) off trivial ⟨hP.snoc (.inr ⟨_, _, rfl⟩), rfl⟩
  · obtain ⟨hP, rfl⟩ := hJ
    obtain ⟨v0', v1', rfl, p0, p1⟩ := hP.two
    unfold LCg.FinE
    intro D' h' tk F' N' o1
    dsimp only
    repeat' (first | (k_unfold; (try dsimp only)) | ((first | (with_reducible show wpAny _ _ _ _ _ _) | (with_reducible show ite _ _ _) | (with_reducible show And _ _)); walk1; (all_goals (try dsimp only))))
    all_goals exact hret _ _ _ _ (by k_asm) (by first | k_asm | exact news_sub (by assumption) (fun p hp => by first | exact hp | exact sub_drop2 p hp | exact sub_drop3 p hp | exact .tail _ hp | exact .tail _ (.tail _ hp) | exact .tail _ (.tail _ (.tail _ hp)) | exact .tail _ (.tail _ (.tail _ (.tail _ hp))))) ⟨_, _, _, _, _, rfl, rfl, by assumption, p0, p1, off1_all o1⟩
  · exact ⟨AllP.nil, rfl⟩
theorem head_8 {w : World} {l : Addr} {ns : List Int} {c1 c2 c3 c4 c5 c6 c7 : Addr} {m : Str → Option Value} {news : List (Addr × Obj)} {sd : Int} {ts : Tok} {o1 : Obj} (hc1 : (c1, o1) ∈ news) (h1 : o1.data = .cell (some (.int sd ts))) :
    Blk w l ns (LC c1 c2 c3 c4 c5 c6 c7) (stAt lawBody 8) m news (fun m' n' => ∃ D ys c, m' = setL "marks" (.ref D) m ∧ n' = (D, listOf (List.toArray ys) c) :: news ∧ AllP (fun _ y => ∃ z t, y = .int z t) 7 ys ∧ ∀ p ∈ news, p.1 ≠ D) := by
  refine' blk_lit ?e ?_
  case e => exact rfl
  unfold Blk
  intro vs mean mg mb dp un gd a ccd outer A₀ h₀ L s Q E B F X N T hl hI hlen hdp hun hret
  revert X; k_fill; intro X
  refine wpAny_noRaise ?_
  k_dflt (refine LCg.Assign_ListComp_U (F₀ := by k_asm) (by rfl) (by with_unfolding_all rfl) (by with_unfolding_all rfl) (by decide) (by rfl) (by decide) (by rfl) (by rfl) (by rfl) ?_)
  iterate 7 (walk1; (all_goals (try dsimp only)))
  rename IsRange _ _ _ _ _ _ _ _ => hR9
  rename Fr _ _ _ _ => F9
  rename News _ _ _ _ => N9
  refine LCg.CompSrc.range (n := 7) (by rfl) F9 N9 hR9 (by decide) (by decide) (by rw [PySem.sizeLine_eq]; decide) (fun g9 => comp_inv (n := 7) (fun i ys nw => AllP (fun _ y => ∃ z t, y = .int z t) i ys ∧ nw = news) (fun i ys nw v I oI C oC D m₂ h9 tk9 E' hi hv hJ hC hx' F N off ne => ?_) (fun ys nw hJ => ?_) 7 0 [] _ rfl ?_)
  · obtain ⟨t9, rfl⟩ := hv
    obtain ⟨hP, rfl⟩ := hJ
    have hi' : i = 0 ∨ i = 1 ∨ i = 2 ∨ i = 3 ∨ i = 4 ∨ i = 5 ∨ i = 6 := by omega
    have hx9 : ∃ k : Int, (k = 0 ∨ k = 1 ∨ k = 2 ∨ k = 3 ∨ k = 4 ∨ k = 5 ∨ k = 6) ∧ m₂ "j" = some (.int k t9) := ⟨_, by omega, hx'⟩
    clear hx'
    obtain ⟨k, hk, hx'⟩ := hx9
    dsimp only
    rcases hk with rfl | rfl | rfl | rfl | rfl | rfl | rfl
    all_goals (repeat' (first | (k_unfold; (try dsimp only)) | ((first | (with_reducible show wpAny _ _ _ _ _ _) | (with_reducible show ite _ _ _) | (with_reducible show And _ _)); walk1; (all_goals (try dsimp only)))))
    all_goals exact LCg.CompEnd.intro (by k_asm) (by k_asm) nw (fun p hp => hp) off trivial ⟨hP.snoc ⟨_, _, rfl⟩, rfl⟩
  · obtain ⟨hP, rfl⟩ := hJ
    unfold LCg.FinA
    intro D' h' tk F' N' o1
    dsimp only
    all_goals exact hret _ _ _ _ (by k_asm) (by first | k_asm | exact news_sub (by assumption) (fun p hp => by first | exact hp | exact sub_drop2 p hp | exact sub_drop3 p hp | exact .tail _ hp | exact .tail _ (.tail _ hp) | exact .tail _ (.tail _ (.tail _ hp)) | exact .tail _ (.tail _ (.tail _ (.tail _ hp))))) ⟨_, _, _, rfl, rfl, hP, off1_all o1⟩
  · exact ⟨AllP.nil, rfl⟩
theorem head_9 {w : World} {l : Addr} {ns : List Int} {c1 c2 c3 c4 c5 c6 c7 : Addr} {m : Str → Option Value} {news : List (Addr × Obj)} {Mk : Addr} {cM : Nat} {mk : List Value} (hm : m "marks" = some (.ref Mk)) (hM : (Mk, listOf mk.toArray cM) ∈ news) (hall : AllP (fun _ y => ∃ z t, y = .int z t) 7 mk) :
    Blk w l ns (LC c1 c2 c3 c4 c5 c6 c7) (stAt lawBody 9) m news (fun m' n' => ∃ D ys c, m' = setL "refs" (.ref D) m ∧ n' = (D, listOf (List.toArray ys) c) :: news ∧ AllP (fun _ => Cell) 7 ys ∧ ∀ p ∈ news, p.1 ≠ D) := by
  refine' blk_lit ?e ?_
  case e => exact rfl
  unfold Blk
  intro vs mean mg mb dp un gd a ccd outer A₀ h₀ L s Q E B F X N T hl hI hlen hdp hun hret
  revert X; k_fill; intro X
  have hlen7 := hall.1
  refine wpAny_noRaise ?_
  k_dflt (refine LCg.Assign_ListComp_U (F₀ := by k_asm) (by rfl) (by with_unfolding_all rfl) (by with_unfolding_all rfl) (by decide) (by rfl) (by decide) (by rfl) (by rfl) (by rfl) ?_)
  iterate 1 (walk1; (all_goals (try dsimp only)))
  rename Fr _ _ _ _ => F9
  rename News _ _ _ _ => N9
  refine LCg.CompSrc.ledger (by rfl) F9 N9 hM (by rw [PySem.sizeLine_eq]; first | decide | (rw [List.size_toArray]; omega) | (simp only [List.size_toArray, List.length_cons, List.length_nil]; omega)) (fun g9 => comp_inv (fun i ys nw => AllP (fun _ => Cell) i ys ∧ nw = news) (fun i ys nw v I oI C oC D m₂ h9 tk9 E' hi hv hJ hC hx' F N off ne => ?_) (fun ys nw hJ => ?_) _ 0 [] _ (Nat.zero_add _) ?_)
  · obtain ⟨hP, rfl⟩ := hJ
    obtain ⟨z, t9, rfl⟩ := hall.2 i v (by simpa using hv)
    dsimp only
    repeat' (first | (k_unfold; (try dsimp only)) | ((first | (with_reducible show wpAny _ _ _ _ _ _) | (with_reducible show ite _ _ _) | (with_reducible show And _ _)); walk1; (all_goals (try dsimp only))))
    all_goals first | exact LCg.CompEnd.intro (by k_asm) (by k_asm) nw (fun p hp => hp) off (.inr ⟨_, hM, rfl, _, rfl⟩) ⟨hP.snoc (.inl rfl), rfl⟩ | exact LCg.CompEnd.intro (by k_asm) (by k_asm) nw (fun p hp => hp) off (.inr ⟨_, hM, rfl, _, rfl⟩) ⟨hP.snoc (.inr ⟨_, _, rfl⟩), rfl⟩
  · obtain ⟨hP, rfl⟩ := hJ
    rw [List.size_toArray, hlen7] at hP
    unfold LCg.FinA
    intro D' h' tk F' N' o1
    dsimp only
    all_goals exact hret _ _ _ _ (by k_asm) (by first | k_asm | exact news_sub (by assumption) (fun p hp => by first | exact hp | exact sub_drop2 p hp | exact sub_drop3 p hp | exact .tail _ hp | exact .tail _ (.tail _ hp) | exact .tail _ (.tail _ (.tail _ hp)) | exact .tail _ (.tail _ (.tail _ (.tail _ hp))))) ⟨_, _, _, rfl, rfl, hP, off1_all o1⟩
  · exact ⟨AllP.nil, rfl⟩
end
theorem rs_j22_25 {M : Model} {A : Around} {E : Value → Shared → Prop} {env : Env} {s : Shared} {Q : Flow → Shared → Prop} (h : Q .next s) : wpAny M A (execs [] env) Q E s := by
  walk1
  exact h
section
open PySem.Spec PyProof.V
local macro_rules | `(tactic| walk_at "call builtin:min") => `(tactic| (k_here; k_dflt (refine' min_two_N (by rfl) ?F ?N ?_; (case F => k_asm); (case N => k_asm)); intro h' tk' F' N'; (try dsimp only)))
theorem head_6 {w : World} {l : Addr} {ns : List Int} {c1 c2 c3 c4 c5 c6 c7 : Addr} {m : Str → Option Value} {news : List (Addr × Obj)} {e : Int} {te : Tok} {o3 o5 : Obj} {Ml : Addr} {cM : Nat} {pa pb : Value} (hc3 : (c3, o3) ∈ news) (h3 : o3.data = .cell (some (.int e te))) (hc5 : (c5, o5) ∈ news) (h5 : o5.data = .cell (some (.ref Ml))) (hM : (Ml, listOf [pa, pb].toArray cM) ∈ news) (ca : Cell pa) (cb : Cell pb) :
    Blk w l ns (LC c1 c2 c3 c4 c5 c6 c7) (stAt lawBody 6) m news (fun m' n' => ∃ D l0 t0 l1 t1 c, m' = setL "limits" (.ref D) m ∧ n' = (D, listOf [.int l0 t0, .int l1 t1].toArray c) :: news ∧ LimIs pa e l0 ∧ LimIs pb e l1 ∧ ∀ p ∈ news, p.1 ≠ D) := by
  refine' blk_lit ?e ?_
  case e => exact rfl
  unfold Blk
  intro vs mean mg mb dp un gd a ccd outer A₀ h₀ L s Q E B F X N T hl hI hlen hdp hun hret
  revert X; k_fill; intro X
  refine wpAny_noRaise ?_
  k_dflt (refine LCg.Assign_ListComp_U (F₀ := by k_asm) (by rfl) (by with_unfolding_all rfl) (by with_unfolding_all rfl) (by decide) (by rfl) (by decide) (by rfl) (by rfl) (by rfl) ?_)
  iterate 1 (walk1; (all_goals (try dsimp only)))
  rename Fr _ _ _ _ => F9
  rename News _ _ _ _ => N9
  refine LCg.CompSrc.ledger (by rfl) F9 N9 hM (by rw [PySem.sizeLine_eq]; first | decide | (rw [List.size_toArray]; omega) | (simp only [List.size_toArray, List.length_cons, List.length_nil]; omega)) (fun g9 => comp_inv (fun i ys nw => AllP (fun i v => ∃ lim t, v = .int lim t ∧ LimIs ([pa, pb].getD i .none) e lim) i ys ∧ nw = news) (fun i ys nw v I oI C oC D m₂ h9 tk9 E' hi hv hJ hC hx' F N off ne => ?_) (fun ys nw hJ => ?_) _ 0 [] _ (Nat.zero_add _) ?_)
  · obtain ⟨hP, rfl⟩ := hJ
    have hi' : i = 0 ∨ i = 1 := by
      have h2 : i < 2 := hi
      omega
    rcases hi' with rfl | rfl
    · obtain rfl : pa = v := by simpa using hv
      rcases ca with rfl | ⟨z, t9, rfl⟩
      · dsimp only
        repeat' (first | (k_unfold; (try dsimp only)) | ((first | (with_reducible show wpAny _ _ _ _ _ _) | (with_reducible show ite _ _ _) | (with_reducible show And _ _)); walk1; (all_goals (try dsimp only))))
        all_goals exact LCg.CompEnd.intro (by k_asm) (by k_asm) nw (fun p hp => hp) off (.inr ⟨_, hM, rfl, _, rfl⟩) ⟨hP.snoc ⟨_, _, rfl, .inl ⟨rfl, rfl⟩⟩, rfl⟩
      · dsimp only
        repeat' (first | (k_unfold; (try dsimp only)) | ((first | (with_reducible show wpAny _ _ _ _ _ _) | (with_reducible show ite _ _ _) | (with_reducible show And _ _)); walk1; (all_goals (try dsimp only))))
        all_goals exact LCg.CompEnd.intro (by k_asm) (by k_asm) nw (fun p hp => hp) off (.inr ⟨_, hM, rfl, _, rfl⟩) ⟨hP.snoc ⟨_, _, rfl, .inr ⟨_, _, rfl, by first | omega | (split <;> omega)⟩⟩, rfl⟩
    · obtain rfl : pb = v := by simpa using hv
      rcases cb with rfl | ⟨z, t9, rfl⟩
      · dsimp only
        repeat' (first | (k_unfold; (try dsimp only)) | ((first | (with_reducible show wpAny _ _ _ _ _ _) | (with_reducible show ite _ _ _) | (with_reducible show And _ _)); walk1; (all_goals (try dsimp only))))
        all_goals exact LCg.CompEnd.intro (by k_asm) (by k_asm) nw (fun p hp => hp) off (.inr ⟨_, hM, rfl, _, rfl⟩) ⟨hP.snoc ⟨_, _, rfl, .inl ⟨rfl, rfl⟩⟩, rfl⟩
      · dsimp only
        repeat' (first | (k_unfold; (try dsimp only)) | ((first | (with_reducible show wpAny _ _ _ _ _ _) | (with_reducible show ite _ _ _) | (with_reducible show And _ _)); walk1; (all_goals (try dsimp only))))
        all_goals exact LCg.CompEnd.intro (by k_asm) (by k_asm) nw (fun p hp => hp) off (.inr ⟨_, hM, rfl, _, rfl⟩) ⟨hP.snoc ⟨_, _, rfl, .inr ⟨_, _, rfl, by first | omega | (split <;> omega)⟩⟩, rfl⟩
  · obtain ⟨hP, rfl⟩ := hJ
    obtain ⟨v0', v1', rfl, ⟨l0, t0, rfl, p0⟩, ⟨l1, t1, rfl, p1⟩⟩ := AllP.two hP
    unfold LCg.FinA
    intro D' h' tk F' N' o1
    dsimp only
    all_goals exact hret _ _ _ _ (by k_asm) (by first | k_asm | exact news_sub (by assumption) (fun p hp => by first | exact hp | exact sub_drop2 p hp | exact sub_drop3 p hp | exact .tail _ hp | exact .tail _ (.tail _ hp) | exact .tail _ (.tail _ (.tail _ hp)) | exact .tail _ (.tail _ (.tail _ (.tail _ hp))))) ⟨_, _, _, _, _, _, rfl, rfl, p0, p1, off1_all o1⟩
  · exact ⟨AllP.nil, rfl⟩
end
theorem rs_j23_26 {M : Model} {A : Around} {E : Value → Shared → Prop} {env : Env} {s : Shared} {Q : Flow → Shared → Prop} (h : Q .next s) : wpAny M A (execs [] env) Q E s := by
  walk1
  exact h
section
open PySem.Spec PyProof.V
theorem sub_row {a b I C D : Addr × Obj} {nw : List (Addr × Obj)} : ∀ p ∈ I :: C :: D :: a :: nw, p ∈ a :: b :: I :: C :: D :: nw := by
  intro p hp
  simp only [List.mem_cons] at hp ⊢
  rcases hp with h | h | h | h | h <;> simp [h]
def RowJ (x y : Int) (news : List (Addr × Obj)) : Nat → List Value → List (Addr × Obj) → Prop
  | 0, ys, nw => ys = [] ∧ nw = news
  | 1, ys, nw => ∃ a c, ys = [.ref a] ∧ nw = (a, listOf (List.replicate x.toNat Value.none).toArray c) :: news ∧ ∀ p ∈ news, p.1 < a
  | _, ys, nw => ∃ a b c d, ys = [.ref a, .ref b] ∧ nw = (b, listOf (List.replicate y.toNat Value.none).toArray d) :: (a, listOf (List.replicate x.toNat Value.none).toArray c) :: news ∧ (∀ p ∈ news, p.1 < a) ∧ ∀ p ∈ news, p.1 < b
theorem head_14 {w : World} {l : Addr} {ns : List Int} {c1 c2 c3 c4 c5 c6 c7 : Addr} {m : Str → Option Value} {news : List (Addr × Obj)} {x y : Int} {t u : Tok} {o4 : Obj} {Ll : Addr} {cL : Nat} (hc4 : (c4, o4) ∈ news) (h4 : o4.data = .cell (some (.ref Ll))) (hL : (Ll, listOf [.int x t, .int y u].toArray cL) ∈ news) (hx0 : 0 ≤ x) (hx : x ≤ 8) (hy0 : 0 ≤ y) (hy : y ≤ 8) :
    Blk w l ns (LC c1 c2 c3 c4 c5 c6 c7) (stAt lawBody 14) m news (fun m' n' => ∃ R a b c d cR, m' = setL "rows" (.ref R) m ∧ n' = (R, listOf [.ref a, .ref b].toArray cR) :: (b, listOf (List.replicate y.toNat Value.none).toArray d) :: (a, listOf (List.replicate x.toNat Value.none).toArray c) :: news ∧ (∀ p ∈ news, p.1 < a) ∧ (∀ p ∈ news, p.1 < b) ∧ a ≠ R ∧ b ≠ R ∧ ∀ p ∈ news, p.1 ≠ R) := by
  refine' blk_lit ?e ?_
  case e => exact rfl
  unfold Blk
  intro vs mean mg mb dp un gd a ccd outer A₀ h₀ L s Q E B F X N T hl hI hlen hdp hun hret
  revert X; k_fill; intro X
  refine wpAny_noRaise ?_
  k_dflt (refine LCg.Assign_ListComp_U (F₀ := by k_asm) (by rfl) (by with_unfolding_all rfl) (by with_unfolding_all rfl) (by decide) (by rfl) (by decide) (by rfl) (by rfl) (by rfl) ?_)
  iterate 7 (walk1; (all_goals (try dsimp only)))
  rename IsRange _ _ _ _ _ _ _ _ => hR9
  rename Fr _ _ _ _ => F9
  rename News _ _ _ _ => N9
  refine LCg.CompSrc.range (n := 2) (by rfl) F9 N9 hR9 (by decide) (by decide) (by rw [PySem.sizeLine_eq]; decide) (fun g9 => comp_inv (n := 2) (RowJ x y news) (fun i ys nw v I oI C oC D m₂ h9 tk9 E' hi hv hJ hC hx' F N off ne => ?_) (fun ys nw hJ => ?_) 2 0 [] _ rfl ?_)
  · obtain ⟨t9, rfl⟩ := hv
    have hi' : i = 0 ∨ i = 1 := by omega
    rcases hi' with rfl | rfl
    · change m₂ "j" = some (.int 0 t9) at hx'
      obtain ⟨rfl, rfl⟩ := hJ
      dsimp only
      repeat' (first | (k_unfold; (try dsimp only)) | ((first | (with_reducible show wpAny _ _ _ _ _ _) | (with_reducible show ite _ _ _) | (with_reducible show And _ _)); walk1; (all_goals (try dsimp only))))
      rename (∀ p ∈ (_, _) :: (I, oI) :: (C, oC) :: _, p.1 < _) => L1
      refine LCg.CompEnd.intro (by k_asm) (by k_asm) ((_, listOf (List.replicate x.toNat Value.none).toArray 0) :: nw) (fun p hp => ?_) ⟨⟨Nat.ne_of_gt (L1 _ (.tail _ (.head _))), Nat.ne_of_gt (L1 _ (.tail _ (.tail _ (.head _)))), Nat.ne_of_gt (L1 _ (.tail _ (.tail _ (.tail _ (.head _)))))⟩, off⟩ trivial ⟨_, _, rfl, rfl, fun p hp => L1 p (.tail _ (.tail _ (.tail _ (.tail _ hp))))⟩
      exact sub_row p hp
    · change m₂ "j" = some (.int 1 t9) at hx'
      obtain ⟨ra, rc, rfl, rfl, la⟩ := hJ
      dsimp only
      repeat' (first | (k_unfold; (try dsimp only)) | ((first | (with_reducible show wpAny _ _ _ _ _ _) | (with_reducible show ite _ _ _) | (with_reducible show And _ _)); walk1; (all_goals (try dsimp only))))
      rename (∀ p ∈ (_, _) :: (I, oI) :: (C, oC) :: _, p.1 < _) => L1
      refine LCg.CompEnd.intro (by k_asm) (by k_asm) ((_, listOf (List.replicate y.toNat Value.none).toArray 0) :: _) (fun p hp => ?_) ⟨⟨Nat.ne_of_gt (L1 _ (.tail _ (.head _))), Nat.ne_of_gt (L1 _ (.tail _ (.tail _ (.head _)))), Nat.ne_of_gt (L1 _ (.tail _ (.tail _ (.tail _ (.head _)))))⟩, off⟩ trivial ⟨_, _, _, _, rfl, rfl, la, fun p hp => L1 p (.tail _ (.tail _ (.tail _ (.tail _ (.tail _ hp)))))⟩
      exact sub_row p hp
  · obtain ⟨ra, rb, rc, rd, rfl, rfl, la, lb⟩ := hJ
    unfold LCg.FinA
    intro D' h' tk F' N' o1
    have o2 := off1_all o1
    dsimp only
    exact hret _ _ _ _ (by k_asm) (by first | k_asm | exact news_sub (by assumption) (fun p hp => by first | exact hp | exact sub_drop2 p hp | exact sub_drop3 p hp | exact .tail _ hp | exact .tail _ (.tail _ hp) | exact .tail _ (.tail _ (.tail _ hp)) | exact .tail _ (.tail _ (.tail _ (.tail _ hp))))) ⟨_, _, _, _, _, _, rfl, rfl, la, lb, o2 _ (.tail _ (.head _)), o2 _ (.head _), fun p hp => o2 _ (.tail _ (.tail _ hp))⟩
  · exact ⟨rfl, rfl⟩
end
theorem rs_j24_27 {M : Model} {A : Around} {E : Value → Shared → Prop} {env : Env} {s : Shared} {Q : Flow → Shared → Prop} (h : Q .next s) : wpAny M A (execs [] env) Q E s := by
  walk1
  exact h
section
open PySem.Spec PyProof.V
theorem sub_tab {a b c I C D : Addr × Obj} {nw : List (Addr × Obj)} : ∀ p ∈ I :: C :: D :: a :: b :: c :: nw, p ∈ a :: b :: c :: I :: C :: D :: nw := by
  intro p hp
  simp only [List.mem_cons] at hp ⊢
  rcases hp with h | h | h | h | h | h | h <;> simp [h]
theorem ne3 {a I C D : Nat} (h1 : I < a) (h2 : C < a) (h3 : D < a) : (@Ne Nat a I) ∧ (@Ne Nat a C) ∧ (@Ne Nat a D) := ⟨Nat.ne_of_gt h1, Nat.ne_of_gt h2, Nat.ne_of_gt h3⟩
def TabLt (d t i : Addr) (nw : List (Addr × Obj)) : Prop := d < t ∧ t < i ∧ ∀ p ∈ nw, p.1 < d
local macro_rules | `(tactic| walk_at "call ref") => `(tactic| (k_here; k_dflt (show wpAny _ _ (call (Value.ref 159) _) _ _ _); k_dflt (refine' tel_use (C := table_made (hs := by k_mem) (hds := by k_mem) (h0 := by omega) (h1 := by omega) (h2 := by omega)) (ret := ?_)); intro r9 n9 h' tk' F' N' hO; obtain ⟨tt9, td9, ti9, tk1, tk2, tk3, tk4, e1, e2, tl1, tl2, tl3⟩ := hO; subst e1; subst e2; (have hT9 : TabLt td9 tt9 ti9 _ := ⟨tl1, tl2.1, tl3⟩); (try dsimp only)))
def TabJ (w : World) (kd0 kd1 mo0 mo1 : Value) (x y e : Int) (te : Tok) (news : List (Addr × Obj)) : Nat → List Value → List (Addr × Obj) → Prop
  | 0, ys, nw => ys = [] ∧ nw = news
  | 1, ys, nw => ∃ t d i k1 k2 k3 k4, ys = [.ref t] ∧ nw = (i, listOf (List.replicate x.toNat Value.none).toArray 0) :: (t, instObj 159 d) :: (d, TDict w k1 k2 k3 k4 kd0 mo0 (.int e te) i) :: news ∧ d < t ∧ t < i ∧ ∀ p ∈ news, p.1 < d
  | _, ys, nw => ∃ t d i k1 k2 k3 k4 t' d' i' k1' k2' k3' k4', ys = [.ref t, .ref t'] ∧ nw = (i', listOf (List.replicate y.toNat Value.none).toArray 0) :: (t', instObj 159 d') :: (d', TDict w k1' k2' k3' k4' kd1 mo1 (.int e te) i') :: (i, listOf (List.replicate x.toNat Value.none).toArray 0) :: (t, instObj 159 d) :: (d, TDict w k1 k2 k3 k4 kd0 mo0 (.int e te) i) :: news ∧ d < t ∧ t < i ∧ i < d' ∧ d' < t' ∧ t' < i' ∧ ∀ p ∈ news, p.1 < d
theorem head_13 {w : World} {l : Addr} {ns : List Int} {c1 c2 c3 c4 c5 c6 c7 : Addr} {m : Str → Option Value} {news : List (Addr × Obj)} {x y e : Int} {t u te : Tok} {o4 o5 o6 o7 : Obj} {Ll Ml Kl S ds : Addr} {cL cM cK : Nat} {k1 k2 k3 k4 k5 : Tok} {pg pgs dp fu kd0 kd1 mo0 mo1 : Value} (hc4 : (c4, o4) ∈ news) (h4 : o4.data = .cell (some (.ref Ll))) (hL : (Ll, listOf [.int x t, .int y u].toArray cL) ∈ news) (hx0 : 0 ≤ x) (hx : x ≤ e) (hy0 : 0 ≤ y) (hy : y ≤ e) (he : e ≤ 8)
    (hc5 : (c5, o5) ∈ news) (h5 : o5.data = .cell (some (.ref Ml))) (hM : (Ml, listOf [mo0, mo1].toArray cM) ∈ news) (hc6 : (c6, o6) ∈ news) (h6 : o6.data = .cell (some (.ref Kl))) (hK : (Kl, listOf [kd0, kd1].toArray cK) ∈ news)
    (hc7 : (c7, o7) ∈ news) (h7 : o7.data = .cell (some (.ref S))) (hs : (S, instObj 181 ds) ∈ news) (hds : (ds, SDict w k1 k2 k3 k4 k5 pg pgs (.int e te) dp fu) ∈ news) :
    Blk w l ns (LC c1 c2 c3 c4 c5 c6 c7) (stAt lawBody 13) m news (fun m' n' => ∃ T cT ys nw, m' = setL "tables" (.ref T) m ∧ n' = (T, listOf (List.toArray ys) cT) :: nw ∧ TabJ w kd0 kd1 mo0 mo1 x y e te news 2 ys nw ∧ ∀ p ∈ nw, p.1 ≠ T) := by
  refine' blk_lit ?e ?_
  case e => exact rfl
  unfold Blk
  intro vs mean mg mb dp un gd a ccd outer A₀ h₀ L s Q E B F X N T hl hI hlen hdp hun hret
  revert X; k_fill; intro X
  refine wpAny_noRaise ?_
  k_dflt (refine LCg.Assign_ListComp_U (F₀ := by k_asm) (by rfl) (by with_unfolding_all rfl) (by with_unfolding_all rfl) (by decide) (by rfl) (by decide) (by rfl) (by rfl) (by rfl) ?_)
  iterate 7 (walk1; (all_goals (try dsimp only)))
  rename IsRange _ _ _ _ _ _ _ _ => hR9
  rename Fr _ _ _ _ => F9
  rename News _ _ _ _ => N9
  refine LCg.CompSrc.range (n := 2) (by rfl) F9 N9 hR9 (by decide) (by decide) (by rw [PySem.sizeLine_eq]; decide) (fun g9 => comp_inv (n := 2) (TabJ w kd0 kd1 mo0 mo1 x y e te news) (fun i ys nw v I oI C oC D m₂ h9 tk9 E' hi hv hJ hC hx' F N off ne => ?_) (fun ys nw hJ => ?_) 2 0 [] _ rfl ?_)
  · obtain ⟨t9, rfl⟩ := hv
    have hi' : i = 0 ∨ i = 1 := by omega
    rcases hi' with rfl | rfl
    · change m₂ "j" = some (.int 0 t9) at hx'
      obtain ⟨rfl, rfl⟩ := hJ
      dsimp only
      repeat' (first | (k_unfold; (try dsimp only)) | ((first | (with_reducible show wpAny _ _ _ _ _ _) | (with_reducible show ite _ _ _) | (with_reducible show And _ _)); walk1; (all_goals (try dsimp only))))
      rename TabLt _ _ _ _ => LT9
      obtain ⟨q1, q2, q3⟩ := LT9
      have qI := q3 _ (.head _)
      have qC := q3 _ (.tail _ (.head _))
      have qD := q3 _ (.tail _ (.tail _ (.head _)))
      dsimp only at qI qC qD
      exact LCg.CompEnd.intro (by k_asm) (by k_asm) (_ :: _ :: _ :: nw) sub_tab ⟨ne3 (Nat.lt_trans (Nat.lt_trans qI q1) q2) (Nat.lt_trans (Nat.lt_trans qC q1) q2) (Nat.lt_trans (Nat.lt_trans qD q1) q2), ne3 (Nat.lt_trans qI q1) (Nat.lt_trans qC q1) (Nat.lt_trans qD q1), ne3 qI qC qD, off⟩ trivial ⟨_, _, _, _, _, _, _, rfl, rfl, q1, q2, fun p hp => q3 p (.tail _ (.tail _ (.tail _ hp)))⟩
    · change m₂ "j" = some (.int 1 t9) at hx'
      obtain ⟨tt, td, ti, k11, k12, k13, k14, rfl, rfl, l1, l2, l3⟩ := hJ
      dsimp only
      repeat' (first | (k_unfold; (try dsimp only)) | ((first | (with_reducible show wpAny _ _ _ _ _ _) | (with_reducible show ite _ _ _) | (with_reducible show And _ _)); walk1; (all_goals (try dsimp only))))
      rename TabLt _ _ _ _ => LT9
      obtain ⟨q1, q2, q3⟩ := LT9
      have qI := q3 _ (.head _)
      have qC := q3 _ (.tail _ (.head _))
      have qD := q3 _ (.tail _ (.tail _ (.head _)))
      have qi := q3 _ (.tail _ (.tail _ (.tail _ (.head _))))
      dsimp only at qI qC qD qi
      exact LCg.CompEnd.intro (by k_asm) (by k_asm) (_ :: _ :: _ :: _) sub_tab ⟨ne3 (Nat.lt_trans (Nat.lt_trans qI q1) q2) (Nat.lt_trans (Nat.lt_trans qC q1) q2) (Nat.lt_trans (Nat.lt_trans qD q1) q2), ne3 (Nat.lt_trans qI q1) (Nat.lt_trans qC q1) (Nat.lt_trans qD q1), ne3 qI qC qD, off⟩ trivial ⟨_, _, _, _, _, _, _, _, _, _, _, _, _, _, rfl, rfl, l1, l2, qi, q1, q2, l3⟩
  · unfold LCg.FinA
    intro D' h' tk F' N' o1
    have o2 := off1_all o1
    dsimp only
    exact hret _ _ _ _ (by k_asm) (by first | k_asm | exact news_sub (by assumption) (fun p hp => by first | exact hp | exact sub_drop2 p hp | exact sub_drop3 p hp | exact .tail _ hp | exact .tail _ (.tail _ hp) | exact .tail _ (.tail _ (.tail _ hp)) | exact .tail _ (.tail _ (.tail _ (.tail _ hp))))) ⟨_, _, _, _, rfl, rfl, hJ, o2⟩
  · exact ⟨rfl, rfl⟩
end
theorem rs_j25_28 {M : Model} {A : Around} {E : Value → Shared → Prop} {env : Env} {s : Shared} {Q : Flow → Shared → Prop} (h : Q .next s) : wpAny M A (execs [] env) Q E s := by
  walk1
  exact h
section
open PySem.Spec PyProof.V
def CellAt (a : Addr) (v : Option Value) (news : List (Addr × Obj)) : Prop := ∃ o, (a, o) ∈ news ∧ o.data = .cell v
def NC (o : Obj) : Prop := ∀ v, o.data ≠ .cell v
theorem CellAt.ne {a c : Addr} {v : Option Value} {o' : Obj} {news : List (Addr × Obj)} (h : CellAt a v news) (n : a ≠ c) : CellAt a v (updL c o' news) := by
  obtain ⟨o, h, d⟩ := h
  exact ⟨o, updL_ne h n, d⟩
theorem CellAt.self {c : Addr} {v v' : Option Value} {o' : Obj} {news : List (Addr × Obj)} (h : CellAt c v news) (d : o'.data = .cell v') : CellAt c v' (updL c o' news) := by
  obtain ⟨o, h, _⟩ := h
  exact ⟨o', updL_self h, d⟩
theorem CellAt.mono {a : Addr} {v : Option Value} {news news' : List (Addr × Obj)} (h : CellAt a v news) (s : ∀ p ∈ news, p ∈ news') : CellAt a v news' := by
  obtain ⟨o, h, d⟩ := h
  exact ⟨o, s _ h, d⟩
def Inc (c1 c2 c3 c4 c5 c6 c7 : Nat) : Prop := c1 < c2 ∧ c2 < c3 ∧ c3 < c4 ∧ c4 < c5 ∧ c5 < c6 ∧ c6 < c7
structure HS (c1 c2 c3 c4 c5 c6 c7 : Addr) (v1 v2 v3 v4 v5 v6 v7 : Option Value) (st news : List (Addr × Obj)) : Prop where
  k1 : CellAt c1 v1 news
  k2 : CellAt c2 v2 news
  k3 : CellAt c3 v3 news
  k4 : CellAt c4 v4 news
  k5 : CellAt c5 v5 news
  k6 : CellAt c6 v6 news
  k7 : CellAt c7 v7 news
  sub : ∀ p ∈ st, p ∈ news
  nc : ∀ p ∈ st, NC p.2
section
variable {c1 c2 c3 c4 c5 c6 c7 : Addr} {v1 v2 v3 v4 v5 v6 v7 : Option Value} {st news : List (Addr × Obj)}
theorem HS.more {news' : List (Addr × Obj)} (h : HS c1 c2 c3 c4 c5 c6 c7 v1 v2 v3 v4 v5 v6 v7 st news) (s : ∀ p ∈ news, p ∈ news') : HS c1 c2 c3 c4 c5 c6 c7 v1 v2 v3 v4 v5 v6 v7 st news' :=
  ⟨h.k1.mono s, h.k2.mono s, h.k3.mono s, h.k4.mono s, h.k5.mono s, h.k6.mono s, h.k7.mono s, fun p hp => s p (h.sub p hp), h.nc⟩
theorem HS.add {p : Addr × Obj} (h : HS c1 c2 c3 c4 c5 c6 c7 v1 v2 v3 v4 v5 v6 v7 st news) (n : NC p.2) : HS c1 c2 c3 c4 c5 c6 c7 v1 v2 v3 v4 v5 v6 v7 (p :: st) (p :: news) :=
  let h' := h.more (news' := p :: news) fun q hq => .tail _ hq
  ⟨h'.k1, h'.k2, h'.k3, h'.k4, h'.k5, h'.k6, h'.k7, fun q hq => by
    rcases List.mem_cons.mp hq with rfl | hq
    · exact .head _
    · exact .tail _ (h.sub q hq), fun q hq => by
    rcases List.mem_cons.mp hq with rfl | hq
    · exact n
    · exact h.nc q hq⟩
theorem st_keep {c : Addr} {v : Option Value} {o' : Obj} (f : FunL news) (hc : CellAt c v news) (sub : ∀ p ∈ st, p ∈ news) (nc : ∀ p ∈ st, NC p.2) : ∀ p ∈ st, p ∈ updL c o' news := fun p hp => by
  obtain ⟨o, h, d⟩ := hc
  refine updL_ne (sub p hp) fun e => ?_
  have e2 : p.2 = o := f p (sub p hp) (c, o) h e
  exact nc p hp v (by rw [e2]; exact d)
theorem updL_nc {c : Addr} {v : Option Value} {o' : Obj} {p : Addr × Obj} (f : FunL news) (hc : CellAt c v news) (hp : p ∈ news) (n : NC p.2) : p ∈ updL c o' news :=
  st_keep (st := [p]) f hc (fun q hq => by rw [List.mem_singleton.mp hq]; exact hp) (fun q hq => by rw [List.mem_singleton.mp hq]; exact n) p (.head _)
theorem HS.set1 {v : Option Value} {o' : Obj} (h : HS c1 c2 c3 c4 c5 c6 c7 v1 v2 v3 v4 v5 v6 v7 st news) (i : Inc c1 c2 c3 c4 c5 c6 c7) (f : FunL news) (d : o'.data = .cell v) : HS c1 c2 c3 c4 c5 c6 c7 v v2 v3 v4 v5 v6 v7 st (updL c1 o' news) := by
  unfold Inc at i
  exact ⟨h.k1.self d, h.k2.ne (neN (by omega)), h.k3.ne (neN (by omega)), h.k4.ne (neN (by omega)), h.k5.ne (neN (by omega)), h.k6.ne (neN (by omega)), h.k7.ne (neN (by omega)), st_keep f h.k1 h.sub h.nc, h.nc⟩
theorem HS.set2 {v : Option Value} {o' : Obj} (h : HS c1 c2 c3 c4 c5 c6 c7 v1 v2 v3 v4 v5 v6 v7 st news) (i : Inc c1 c2 c3 c4 c5 c6 c7) (f : FunL news) (d : o'.data = .cell v) : HS c1 c2 c3 c4 c5 c6 c7 v1 v v3 v4 v5 v6 v7 st (updL c2 o' news) := by
  unfold Inc at i
  exact ⟨h.k1.ne (neN (by omega)), h.k2.self d, h.k3.ne (neN (by omega)), h.k4.ne (neN (by omega)), h.k5.ne (neN (by omega)), h.k6.ne (neN (by omega)), h.k7.ne (neN (by omega)), st_keep f h.k2 h.sub h.nc, h.nc⟩
theorem HS.set3 {v : Option Value} {o' : Obj} (h : HS c1 c2 c3 c4 c5 c6 c7 v1 v2 v3 v4 v5 v6 v7 st news) (i : Inc c1 c2 c3 c4 c5 c6 c7) (f : FunL news) (d : o'.data = .cell v) : HS c1 c2 c3 c4 c5 c6 c7 v1 v2 v v4 v5 v6 v7 st (updL c3 o' news) := by
  unfold Inc at i
  exact ⟨h.k1.ne (neN (by omega)), h.k2.ne (neN (by omega)), h.k3.self d, h.k4.ne (neN (by omega)), h.k5.ne (neN (by omega)), h.k6.ne (neN (by omega)), h.k7.ne (neN (by omega)), st_keep f h.k3 h.sub h.nc, h.nc⟩
theorem HS.set4 {v : Option Value} {o' : Obj} (h : HS c1 c2 c3 c4 c5 c6 c7 v1 v2 v3 v4 v5 v6 v7 st news) (i : Inc c1 c2 c3 c4 c5 c6 c7) (f : FunL news) (d : o'.data = .cell v) : HS c1 c2 c3 c4 c5 c6 c7 v1 v2 v3 v v5 v6 v7 st (updL c4 o' news) := by
  unfold Inc at i
  exact ⟨h.k1.ne (neN (by omega)), h.k2.ne (neN (by omega)), h.k3.ne (neN (by omega)), h.k4.self d, h.k5.ne (neN (by omega)), h.k6.ne (neN (by omega)), h.k7.ne (neN (by omega)), st_keep f h.k4 h.sub h.nc, h.nc⟩
theorem HS.set5 {v : Option Value} {o' : Obj} (h : HS c1 c2 c3 c4 c5 c6 c7 v1 v2 v3 v4 v5 v6 v7 st news) (i : Inc c1 c2 c3 c4 c5 c6 c7) (f : FunL news) (d : o'.data = .cell v) : HS c1 c2 c3 c4 c5 c6 c7 v1 v2 v3 v4 v v6 v7 st (updL c5 o' news) := by
  unfold Inc at i
  exact ⟨h.k1.ne (neN (by omega)), h.k2.ne (neN (by omega)), h.k3.ne (neN (by omega)), h.k4.ne (neN (by omega)), h.k5.self d, h.k6.ne (neN (by omega)), h.k7.ne (neN (by omega)), st_keep f h.k5 h.sub h.nc, h.nc⟩
theorem HS.set6 {v : Option Value} {o' : Obj} (h : HS c1 c2 c3 c4 c5 c6 c7 v1 v2 v3 v4 v5 v6 v7 st news) (i : Inc c1 c2 c3 c4 c5 c6 c7) (f : FunL news) (d : o'.data = .cell v) : HS c1 c2 c3 c4 c5 c6 c7 v1 v2 v3 v4 v5 v v7 st (updL c6 o' news) := by
  unfold Inc at i
  exact ⟨h.k1.ne (neN (by omega)), h.k2.ne (neN (by omega)), h.k3.ne (neN (by omega)), h.k4.ne (neN (by omega)), h.k5.ne (neN (by omega)), h.k6.self d, h.k7.ne (neN (by omega)), st_keep f h.k6 h.sub h.nc, h.nc⟩
theorem HS.set7 {v : Option Value} {o' : Obj} (h : HS c1 c2 c3 c4 c5 c6 c7 v1 v2 v3 v4 v5 v6 v7 st news) (i : Inc c1 c2 c3 c4 c5 c6 c7) (f : FunL news) (d : o'.data = .cell v) : HS c1 c2 c3 c4 c5 c6 c7 v1 v2 v3 v4 v5 v6 v st (updL c7 o' news) := by
  unfold Inc at i
  exact ⟨h.k1.ne (neN (by omega)), h.k2.ne (neN (by omega)), h.k3.ne (neN (by omega)), h.k4.ne (neN (by omega)), h.k5.ne (neN (by omega)), h.k6.ne (neN (by omega)), h.k7.self d, st_keep f h.k7 h.sub h.nc, h.nc⟩
end
theorem nc_list {arr : Array Value} {c : Nat} : NC (listOf arr c) := fun v h => by cases h
theorem nc_inst {a b : Addr} : NC (instObj a b) := fun v h => by cases h
theorem nc_sdict {w : World} {k1 k2 k3 k4 k5 : Tok} {pg pgs el dp fu : Value} : NC (SDict w k1 k2 k3 k4 k5 pg pgs el dp fu) := fun v h => by cases h
end
section
open PySem.Spec PyProof.V
def BksR (w : World) (l : Addr) (ns : List Int) (cl : List (Str × Addr)) (st : List Stmt) (m : Str → Option Value) (news : List (Addr × Obj)) : Prop :=
  ∀ (vs : List Value) (mean : ExcName → Option Value) (mg mb : Str → Option Value) (dp un : Nat) (gd : Option (List Code)) (a : Addr) (ccd : Value) (outer : List Env) (A₀ : Around) (h₀ : Heap) (L : Addr) (s : Shared) (Q : Flow → Shared → Prop) (E : Value → Shared → Prop),
    Below A₀ h₀ outer h₀ → Fr h₀ L s.heap m → (Mine.hd.heap_39 w.params).In h₀ → News h₀ L s.heap news → Top Mine.hd.view_39 (looseW Mine.hd.view_39 []) mean mg mb h₀ → h₀.IsList l vs.toArray → IntsAre vs ns → ns.length ≤ 63 → dp + 40 < recursionLimit → un + 400 < cLine →
    (∀ m' news' h' tk', Fr h₀ L h' m' → News h₀ L h' news' → Q (.ret (.bool true)) { s with heap := h', toks := tk' }) →
    wpAny (model PySem.Challenge.rw_nm0113_01.row.prog w) (ktrTop dp un gd "law" lawScope L a ccd cl outer) (execs st (envX "law" lawScope L a ccd cl)) Q E s
section
variable {w : World} {l : Addr} {ns : List Int} {cl : List (Str × Addr)} {b : List Stmt} {i : Nat} {m : Str → Option Value} {news : List (Addr × Obj)} {O1 : (Str → Option Value) → List (Addr × Obj) → Prop}
theorem bksR_cons (h1 : Blk w l ns cl (stAt b i) m news O1) (h2 : ∀ m' n', O1 m' n' → BksR w l ns cl (b.drop (i + 1)) m' n') (hi : i < b.length := by decide +kernel) : BksR w l ns cl (b.drop i) m news := by
  rw [drop_at hi]
  intro vs mean mg mb dp un gd a ccd outer A₀ h₀ L s Q E B F X N T hl hI hlen hdp hun hret
  refine wpAny_execs_cons (h1 vs mean mg mb dp un gd a ccd outer A₀ h₀ L s _ E B F X N T hl hI hlen hdp hun fun m' n' h' tk' F' N' o => ?_)
  exact h2 m' n' o vs mean mg mb dp un gd a ccd outer A₀ h₀ L { s with heap := h', toks := tk' } Q E B F' X N' T hl hI hlen hdp hun fun m'' n'' h'' tk'' F'' N'' => hret m'' n'' h'' tk'' F'' N''
theorem bksR_last (h1 : BlkR w l ns cl (stAt b i) m news) (hi : i < b.length := by decide +kernel) : BksR w l ns cl (b.drop i) m news := by
  rw [drop_at hi]
  intro vs mean mg mb dp un gd a ccd outer A₀ h₀ L s Q E B F X N T hl hI hlen hdp hun hret
  exact wpAny_execs_cons (h1 vs mean mg mb dp un gd a ccd outer A₀ h₀ L s _ E B F X N T hl hI hlen hdp hun fun m' n' h' tk' F' N' => hret m' n' h' tk' F' N')
theorem bksR_fun {st : List Stmt} (h : FunL news → BksR w l ns cl st m news) : BksR w l ns cl st m news :=
  fun vs mean mg mb dp un gd a ccd outer A₀ h₀ L s Q E B F X N T hl hI hlen hdp hun hret => h (funL_of N) vs mean mg mb dp un gd a ccd outer A₀ h₀ L s Q E B F X N T hl hI hlen hdp hun hret
theorem FunL.cons {D : Addr} {o : Obj} (f : FunL news) (h : ∀ p ∈ news, p.1 ≠ D) : FunL ((D, o) :: news) := fun p hp q hq e => by
  rcases List.mem_cons.mp hp with rfl | hp
  · rcases List.mem_cons.mp hq with rfl | hq
    · rfl
    · exact absurd e.symm (h q hq)
  · rcases List.mem_cons.mp hq with rfl | hq
    · exact absurd e (h p hp)
    · exact f p hp q hq e
end
theorem lt_ne {news : List (Addr × Obj)} {D : Addr} (h : ∀ p ∈ news, p.1 < D) : ∀ p ∈ news, p.1 ≠ D := fun p hp => Nat.ne_of_lt (h p hp)
theorem lim_ge {x e lim : Int} {mo : Value} (h : LimIs mo e lim) (hm : MoO x mo) (hx : x ≤ e) : x ≤ lim := by
  rcases h with ⟨_, rfl⟩ | ⟨z, t, rfl, rfl⟩
  · exact hx
  · rcases hm with h | ⟨z', t', h, h'⟩
    · cases h
    · cases h
      omega
theorem MoO.cell {x : Int} {mo : Value} (h : MoO x mo) : Cell mo := by
  rcases h with rfl | ⟨z, t, rfl, _⟩
  · exact .inl rfl
  · exact .inr ⟨_, _, rfl⟩
theorem tail_all {w : World} {l : Addr} {ns : List Int} {c1 c2 c3 c4 c5 c6 c7 : Addr} {m : Str → Option Value} {news : List (Addr × Obj)} {th e x y lim0 lim1 : Int} {tth te tx ty tl0 tl1 : Tok} {Ll Ml Kl Sz Li S g0 g1 Rf ds : Addr} {cL cM cK cLi cS cg0 cg1 cRf : Nat} {mo0 mo1 kd0 kd1 x0 x1 x2 x3 x4 x5 x6 : Value} {k1 k2 k3 k4 k5 : Tok} {pg pgs dp fu : Value}
    (h2 : CellAt c2 (some (.int th tth)) news) (h3 : CellAt c3 (some (.int e te)) news) (h4 : CellAt c4 (some (.ref Ll)) news) (h5 : CellAt c5 (some (.ref Ml)) news) (h6 : CellAt c6 (some (.ref Kl)) news) (h7 : CellAt c7 (some (.ref Sz)) news)
    (hs : m "script" = some (.ref l)) (hsg : m "segments" = some (.ref S)) (hli : m "limits" = some (.ref Li)) (hrf : m "refs" = some (.ref Rf))
    (iL : (Ll, listOf [.int x tx, .int y ty].toArray cL) ∈ news) (iM : (Ml, listOf [mo0, mo1].toArray cM) ∈ news) (iK : (Kl, listOf [kd0, kd1].toArray cK) ∈ news) (iLi : (Li, listOf [.int lim0 tl0, .int lim1 tl1].toArray cLi) ∈ news)
    (iS : (S, listOf [.ref g0, .ref g1, .none].toArray cS) ∈ news) (i0 : (g0, listOf [x0, x1, x2, x3].toArray cg0) ∈ news) (i1 : (g1, listOf [x4, x5, x6].toArray cg1) ∈ news) (iRf : (Rf, listOf [x0, x1, x2, x3, x4, x5, x6].toArray cRf) ∈ news)
    (iSz : (Sz, instObj 181 ds) ∈ news) (ids : (ds, SDict w k1 k2 k3 k4 k5 pg pgs (.int e te) dp fu) ∈ news)
    (e4 : 4 ≤ e) (e8 : e ≤ 8) (x0' : 0 ≤ x) (xe : x ≤ e) (y0' : 0 ≤ y) (ye : y ≤ e) (M0 : MoO x mo0) (M1 : MoO y mo1) (L0 : LimIs mo0 e lim0) (L1 : LimIs mo1 e lim1) (ck0 : Cell kd0) (ck1 : Cell kd1) (cells : ∀ v ∈ [x0, x1, x2, x3, x4, x5, x6], Cell v) :
    BksR w l ns (LC c1 c2 c3 c4 c5 c6 c7) (lawBody.drop 12) m news := by
  obtain ⟨o2, ho2, hd2⟩ := h2
  obtain ⟨o3, ho3, hd3⟩ := h3
  obtain ⟨o4, ho4, hd4⟩ := h4
  obtain ⟨o5, ho5, hd5⟩ := h5
  obtain ⟨o6, ho6, hd6⟩ := h6
  obtain ⟨o7, ho7, hd7⟩ := h7
  refine bksR_cons (head_12 ho2 hd2 ho3 hd3 ho6 hd6 ho7 hd7 iK iSz ids (by omega) e8) ?_
  rintro m' n' ⟨e1, e2⟩
  rw [e1, e2]
  clear e1 e2 m' n'
  refine bksR_cons (head_13 ho4 hd4 iL x0' xe y0' ye e8 ho5 hd5 iM ho6 hd6 iK ho7 hd7 iSz ids) ?_
  rintro _ _ ⟨T, cT, ys, nw, rfl, rfl, ⟨t0, d0, b0, q1, q2, q3, q4, t1, d1, b1, p1, p2, p3, p4, rfl, rfl, l1, l2, l3, l4, l5, fr⟩, frT⟩
  have K3 : ∀ p ∈ news, p ∈ (T, listOf (List.toArray [.ref t0, .ref t1]) cT) :: (b1, listOf (List.replicate y.toNat Value.none).toArray 0) :: (t1, instObj 159 d1) :: (d1, TDict w p1 p2 p3 p4 kd1 mo1 (.int e te) b1) :: (b0, listOf (List.replicate x.toNat Value.none).toArray 0) :: (t0, instObj 159 d0) :: (d0, TDict w q1 q2 q3 q4 kd0 mo0 (.int e te) b0) :: news :=
    fun p hp => .tail _ (.tail _ (.tail _ (.tail _ (.tail _ (.tail _ (.tail _ hp))))))
  refine bksR_cons (head_14 (K3 _ ho4) hd4 (K3 _ iL) x0' (by omega) y0' (by omega)) ?_
  rintro _ _ ⟨R, a0, a1, ca0, ca1, cR, rfl, rfl, fa0, fa1, na0, na1, frR⟩
  have K4 := fun p hp => List.Mem.tail (R, listOf (List.toArray [.ref a0, .ref a1]) cR) (List.Mem.tail (a1, listOf (List.replicate y.toNat Value.none).toArray ca1) (List.Mem.tail (a0, listOf (List.replicate x.toNat Value.none).toArray ca0) (K3 p hp)))
  have sT := fun {p : Addr × Obj} (hp : p ∈ (T, listOf (List.toArray [.ref t0, .ref t1]) cT) :: (b1, listOf (List.replicate y.toNat Value.none).toArray 0) :: (t1, instObj 159 d1) :: (d1, TDict w p1 p2 p3 p4 kd1 mo1 (.int e te) b1) :: (b0, listOf (List.replicate x.toNat Value.none).toArray 0) :: (t0, instObj 159 d0) :: (d0, TDict w q1 q2 q3 q4 kd0 mo0 (.int e te) b0) :: news) => List.Mem.tail (R, listOf (List.toArray [.ref a0, .ref a1]) cR) (List.Mem.tail (a1, listOf (List.replicate y.toNat Value.none).toArray ca1) (List.Mem.tail (a0, listOf (List.replicate x.toNat Value.none).toArray ca0) hp))
  have mT := sT (.head _)
  have mb1 := sT (.tail _ (.head _))
  have mt1 := sT (.tail _ (.tail _ (.head _)))
  have md1 := sT (.tail _ (.tail _ (.tail _ (.head _))))
  have mb0 := sT (.tail _ (.tail _ (.tail _ (.tail _ (.head _)))))
  have mt0 := sT (.tail _ (.tail _ (.tail _ (.tail _ (.tail _ (.head _))))))
  have md0 := sT (.tail _ (.tail _ (.tail _ (.tail _ (.tail _ (.tail _ (.head _)))))))
  refine bksR_cons (head_15 rfl rfl (K4 _ ho6) hd6 (K4 _ ho5) hd5 (same_tel mT (.head _) (K4 _ iK) (K4 _ iM) mt0 md0 mb0 (.tail _ (.tail _ (.head _))) mt1 md1 mb1 (.tail _ (.head _)) ck0 ck1 M0.cell M1.cell (cells_rep (.inl rfl)) (cells_rep (.inl rfl)) (by rw [List.length_replicate]; omega) (by rw [List.length_replicate]; omega))) ?_
  rintro m' n' ⟨e1, e2⟩
  rw [e1, e2]
  clear e1 e2 m' n'
  have lp : ∀ p ∈ news, p.1 ≠ b0 ∧ p.1 ≠ b1 ∧ p.1 ≠ R := fun p hp => by
    have q := fr p hp
    refine ⟨neN ?_, neN ?_, frR p (K3 p hp)⟩
    · have := Nat.lt_trans (Nat.lt_trans q l1) l2
      exact Nat.ne_of_lt this
    · exact Nat.ne_of_lt (Nat.lt_trans (Nat.lt_trans (Nat.lt_trans (Nat.lt_trans (Nat.lt_trans q l1) l2) l3) l4) l5)
  have b01 : b0 < b1 := Nat.lt_trans (Nat.lt_trans l3 l4) l5
  have hx : FxOk w c5 c6 { T := T, Kl := Kl, Ml := Ml, Li := Li, S := S, Rf := Rf, g0 := g0, g1 := g1, t0 := t0, t1 := t1, d0 := d0, d1 := d1, i0 := b0, i1 := b1, R := R, o5 := o5, o6 := o6, cT := cT, cK := cK, cM := cM, cL := cLi, cS := cS, cR := cR, cg0 := cg0, cg1 := cg1, cRf := cRf, k10 := q1, k20 := q2, k30 := q3, k40 := q4, k11 := p1, k21 := p2, k31 := p3, k41 := p4, te0 := te, te1 := te, tl0 := tl0, tl1 := tl1, kd0 := kd0, kd1 := kd1, mo0 := mo0, mo1 := mo1, el := e, lim0 := lim0, lim1 := lim1, sg0 := [x0, x1, x2, x3], sg1 := [x4, x5, x6], refs := [x0, x1, x2, x3, x4, x5, x6] }
      [(T, listOf [.ref t0, .ref t1].toArray cT), (t0, instObj 159 d0), (d0, TDict w q1 q2 q3 q4 kd0 mo0 (.int e te) b0), (t1, instObj 159 d1), (d1, TDict w p1 p2 p3 p4 kd1 mo1 (.int e te) b1),
        (Kl, listOf [kd0, kd1].toArray cK), (Ml, listOf [mo0, mo1].toArray cM), (Li, listOf [.int lim0 tl0, .int lim1 tl1].toArray cLi), (S, listOf [.ref g0, .ref g1, .none].toArray cS), (g0, listOf [x0, x1, x2, x3].toArray cg0), (g1, listOf [x4, x5, x6].toArray cg1), (Rf, listOf [x0, x1, x2, x3, x4, x5, x6].toArray cRf), (c5, o5), (c6, o6)] := by
    constructor
    case hT => simp
    case hK => simp
    case hM => simp
    case hL => simp
    case hS => simp
    case hg0 => simp
    case hg1 => simp
    case hRf => simp
    case ht0 => simp
    case hd0 => simp
    case ht1 => simp
    case hd1 => simp
    case h5 => simp
    case h6 => simp
    case h5d => exact hd5
    case h6d => exact hd6
    case off =>
      intro p hp
      simp only [List.mem_cons, List.not_mem_nil, or_false] at hp
      rcases hp with rfl | rfl | rfl | rfl | rfl | rfl | rfl | rfl | rfl | rfl | rfl | rfl | rfl | rfl
      · exact ⟨(frT _ (.tail _ (.tail _ (.tail _ (.head _))))).symm, (frT _ (.head _)).symm, frR _ (.head _)⟩
      · exact ⟨Nat.ne_of_lt l2, Nat.ne_of_lt (Nat.lt_trans l2 b01), frR _ (.tail _ (.tail _ (.tail _ (.tail _ (.tail _ (.head _))))))⟩
      · exact ⟨Nat.ne_of_lt (Nat.lt_trans l1 l2), Nat.ne_of_lt (Nat.lt_trans (Nat.lt_trans l1 l2) b01), frR _ (.tail _ (.tail _ (.tail _ (.tail _ (.tail _ (.tail _ (.head _)))))))⟩
      · exact ⟨Nat.ne_of_gt (Nat.lt_trans l3 l4), Nat.ne_of_lt l5, frR _ (.tail _ (.tail _ (.head _)))⟩
      · exact ⟨Nat.ne_of_gt l3, Nat.ne_of_lt (Nat.lt_trans l4 l5), frR _ (.tail _ (.tail _ (.tail _ (.head _))))⟩
      · exact lp _ iK
      · exact lp _ iM
      · exact lp _ iLi
      · exact lp _ iS
      · exact lp _ i0
      · exact lp _ i1
      · exact lp _ iRf
      · exact lp _ ho5
      · exact lp _ ho6
    case ii => exact Nat.ne_of_lt b01
    case i0R => exact frR _ (.tail _ (.tail _ (.tail _ (.tail _ (.head _)))))
    case i1R => exact frR _ (.tail _ (.head _))
    case l0 => exact L0
    case l1 => exact L1
    case le => show e ≤ 50; omega
    case ck0 => exact ck0
    case ck1 => exact ck1
    case cm0 => exact M0.cell
    case cm1 => exact M1.cell
    case z0 => show 4 ≤ 50; decide
    case z1 => show 3 ≤ 50; decide
    case cs0 => exact fun v hv => cells v (by simp only [List.mem_cons, List.not_mem_nil, or_false] at hv ⊢; rcases hv with h | h | h | h <;> simp [h])
    case cs1 => exact fun v hv => cells v (by simp only [List.mem_cons, List.not_mem_nil, or_false] at hv ⊢; rcases hv with h | h | h <;> simp [h])
  refine bksR_cons (loop_blk hx ?_ ⟨hs, rfl, rfl, hsg, hli, hrf⟩ ?_) ?_
  · intro p hp a b h
    have hd := congrArg Obj.data h
    simp only [List.mem_cons, List.not_mem_nil, or_false] at hp
    rcases hp with rfl | rfl | rfl | rfl | rfl | rfl | rfl | rfl | rfl | rfl | rfl | rfl | rfl | rfl
    case inr.inr.inr.inr.inr.inr.inr.inr.inr.inr.inr.inr.inl => rw [hd5] at hd; cases hd
    case inr.inr.inr.inr.inr.inr.inr.inr.inr.inr.inr.inr.inr => rw [hd6] at hd; cases hd
    all_goals cases hd
  · refine ⟨List.replicate x.toNat .none, List.replicate y.toNat .none, 0, 0, ca0, ca1, a0, a1, ?_, mb0, mb1, .head _, .tail _ (.tail _ (.head _)), .tail _ (.head _), ⟨?_, ?_, na0⟩, ⟨?_, ?_, na1⟩, cells_rep (.inl rfl), cells_rep (.inl rfl), ?_, ?_⟩
    · intro p hp
      simp only [List.mem_cons, List.not_mem_nil, or_false] at hp
      rcases hp with rfl | rfl | rfl | rfl | rfl | rfl | rfl | rfl | rfl | rfl | rfl | rfl | rfl | rfl
      · exact mT
      · exact mt0
      · exact md0
      · exact mt1
      · exact md1
      · exact K4 _ iK
      · exact K4 _ iM
      · exact K4 _ iLi
      · exact K4 _ iS
      · exact K4 _ i0
      · exact K4 _ i1
      · exact K4 _ iRf
      · exact K4 _ ho5
      · exact K4 _ ho6
    · exact Nat.ne_of_gt (fa0 _ (.tail _ (.tail _ (.tail _ (.tail _ (.head _))))))
    · exact Nat.ne_of_gt (fa0 _ (.tail _ (.head _)))
    · exact Nat.ne_of_gt (fa1 _ (.tail _ (.tail _ (.tail _ (.tail _ (.head _))))))
    · exact Nat.ne_of_gt (fa1 _ (.tail _ (.head _)))
    · rw [List.length_replicate]
      have := lim_ge L0 M0 xe
      show ((x.toNat : Nat) : Int) ≤ lim0
      omega
    · rw [List.length_replicate]
      have := lim_ge L1 M1 ye
      show ((y.toNat : Nat) : Int) ≤ lim1
      omega
  · rintro m' n' ⟨hm, hy⟩
    obtain ⟨r0, r1, z0, z1, z2, z3, z4, z5, sub, _⟩ := hy
    exact bksR_last (head_17 hm.2.2.2.1 hm.2.2.2.2.2 (sub _ hx.hRf) (sub _ hx.hS) (sub _ hx.hg0) (sub _ hx.hg1) hx.cs0 hx.cs1)
theorem head_all {w : World} {l : Addr} {ns : List Int} {c1 c2 c3 c4 c5 c6 c7 : Addr} {m : Str → Option Value} {news : List (Addr × Obj)}
    (inc : Inc c1 c2 c3 c4 c5 c6 c7) (h : HS c1 c2 c3 c4 c5 c6 c7 none none none none none none none [] news) (hs : m "script" = some (.ref l)) : BksR w l ns (LC c1 c2 c3 c4 c5 c6 c7) (lawBody.drop 0) m news := by
  refine bksR_cons (head_0 hs) ?_
  rintro _ _ ⟨fi, tfi, rfl, rfl⟩
  refine bksR_fun fun f => ?_
  obtain ⟨o, ho, hd⟩ := h.k1
  refine bksR_cons (head_1 hs ho hd) ?_
  rintro _ _ ⟨se, tse, o', rfl, rfl, d⟩
  replace h := h.set1 inc f d
  clear f ho hd d
  refine bksR_fun fun f => ?_
  obtain ⟨o, ho, hd⟩ := h.k2
  refine bksR_cons (head_2 hs ho hd) ?_
  rintro _ _ ⟨th, tth, o', rfl, rfl, d⟩
  replace h := h.set2 inc f d
  clear f ho hd d
  refine bksR_fun fun f => ?_
  obtain ⟨o, ho, hd⟩ := h.k3
  refine bksR_cons (head_3 rfl ho hd) ?_
  rintro _ _ ⟨e, te, o', rfl, rfl, d, e4, e8⟩
  replace h := h.set3 inc f d
  clear f ho hd d
  refine bksR_fun fun f => ?_
  obtain ⟨o, ho, hd⟩ := h.k4
  obtain ⟨o3, ho3, hd3⟩ := h.k3
  refine bksR_cons (head_4 rfl ho3 hd3 e4 ho hd) ?_
  rintro _ _ ⟨x, y, tx, ty, o', Ll, rfl, rfl, d, x0, xe, y0, ye, fr⟩
  replace h := (h.add (p := (Ll, listOf [.int x tx, .int y ty].toArray 0)) nc_list).set4 inc (f.cons (lt_ne fr)) d
  clear f ho hd ho3 hd3 d fr
  have iL := h.sub _ (.head _)
  refine bksR_fun fun f => ?_
  obtain ⟨o2, ho2, hd2⟩ := h.k2
  obtain ⟨o4, ho4, hd4⟩ := h.k4
  obtain ⟨o, ho, hd⟩ := h.k5
  refine bksR_cons (head_5 ho2 hd2 ho4 hd4 iL (by omega) (by omega) ho hd) ?_
  rintro _ _ ⟨o', Ml, mo0, mo1, cM, rfl, rfl, d, M0, M1, fr⟩
  replace h := (h.add (p := (Ml, listOf [mo0, mo1].toArray cM)) nc_list).set5 inc (f.cons fr) d
  clear f ho hd ho2 hd2 ho4 hd4 d fr iL
  obtain ⟨o3, ho3, hd3⟩ := h.k3
  obtain ⟨o5, ho5, hd5⟩ := h.k5
  refine bksR_cons (head_6 ho3 hd3 ho5 hd5 (h.sub _ (.head _)) M0.cell M1.cell) ?_
  rintro _ _ ⟨Li, lim0, tl0, lim1, tl1, cLi, rfl, rfl, L0, L1, fr⟩
  replace h := h.add (p := (Li, listOf [.int lim0 tl0, .int lim1 tl1].toArray cLi)) nc_list
  clear ho3 hd3 ho5 hd5 fr
  refine bksR_fun fun f => ?_
  obtain ⟨o2, ho2, hd2⟩ := h.k2
  obtain ⟨o, ho, hd⟩ := h.k6
  refine bksR_cons (head_7 ho2 hd2 ho hd) ?_
  rintro _ _ ⟨o', Kl, kd0, kd1, cK, rfl, rfl, d, ck0, ck1, fr⟩
  replace h := (h.add (p := (Kl, listOf [kd0, kd1].toArray cK)) nc_list).set6 inc (f.cons fr) d
  clear f ho hd ho2 hd2 d fr
  obtain ⟨o1, ho1, hd1⟩ := h.k1
  refine bksR_cons (head_8 ho1 hd1) ?_
  rintro _ _ ⟨Mk, mk, cMk, rfl, rfl, allM, fr⟩
  replace h := h.add (p := (Mk, listOf mk.toArray cMk)) nc_list
  clear ho1 hd1 fr
  refine bksR_cons (head_9 rfl (h.sub _ (.head _)) allM) ?_
  rintro _ _ ⟨Rf, rl, cRf, rfl, rfl, allR, fr⟩
  replace h := h.add (p := (Rf, listOf rl.toArray cRf)) nc_list
  clear fr
  obtain ⟨x0', x1, x2, x3, x4, x5, x6, rfl, cells⟩ := allR.seven
  refine bksR_cons (head_10 rfl (h.sub _ (.head _))) ?_
  rintro _ _ ⟨S, g0, g1, rfl, rfl⟩
  replace h := ((h.add (p := (g0, listOf [x0', x1, x2, x3].toArray 0)) nc_list).add (p := (g1, listOf [x4, x5, x6].toArray 0)) nc_list).add (p := (S, listOf [.ref g0, .ref g1, .none].toArray 0)) nc_list
  refine bksR_fun fun f => ?_
  obtain ⟨o3, ho3, hd3⟩ := h.k3
  obtain ⟨o, ho, hd⟩ := h.k7
  refine bksR_cons (head_11 ho3 hd3 ho hd) ?_
  rintro _ _ ⟨Sz, ds, k1, k2, k3, k4, k5, pg, pgs, dp, fu, o', rfl, rfl, d, dS, fr⟩
  replace h := ((h.add (p := (ds, SDict w k1 k2 k3 k4 k5 pg pgs (.int e te) dp fu)) nc_sdict).add (p := (Sz, instObj 181 ds)) nc_inst).set7 inc ((f.cons (lt_ne fr)).cons fun p hp => by
    rcases List.mem_cons.mp hp with rfl | hp
    · exact Nat.ne_of_lt dS
    · exact Nat.ne_of_lt (Nat.lt_trans (fr p hp) dS)) d
  clear f ho hd ho3 hd3 d
  exact tail_all h.k2 h.k3 h.k4 h.k5 h.k6 h.k7 hs rfl rfl rfl (h.sub _ (.tail _ (.tail _ (.tail _ (.tail _ (.tail _ (.tail _ (.tail _ (.tail _ (.tail _ (.tail _ (.head _)))))))))))) (h.sub _ (.tail _ (.tail _ (.tail _ (.tail _ (.tail _ (.tail _ (.tail _ (.tail _ (.tail _ (.head _))))))))))) (h.sub _ (.tail _ (.tail _ (.tail _ (.tail _ (.tail _ (.tail _ (.tail _ (.head _))))))))) (h.sub _ (.tail _ (.tail _ (.tail _ (.tail _ (.tail _ (.tail _ (.tail _ (.tail _ (.head _)))))))))) (h.sub _ (.tail _ (.tail _ (.head _)))) (h.sub _ (.tail _ (.tail _ (.tail _ (.tail _ (.head _)))))) (h.sub _ (.tail _ (.tail _ (.tail _ (.head _))))) (h.sub _ (.tail _ (.tail _ (.tail _ (.tail _ (.tail _ (.head _))))))) (h.sub _ (.head _)) (h.sub _ (.tail _ (.head _))) e4 e8 x0 xe y0 ye M0 M1 L0 L1 ck0 ck1 cells
end
section
open PySem.Spec PyProof.V
theorem fin_go : PySem.Challenge.rw_nm0113_01.Holds := by
  w_on
  refine holds_law (by kernel_rfl) fun said => ?_
  refine holds_open (q := Mine.hd.view_39) (loose := []) (Xt := fun s => xlAt Mine.hd.view_39 [] s && recOk PySem.Challenge.rw_nm0113_01.row.records s) (XP := XL Mine.hd.view_39 []) (Yf := Hook.obs hk) (Ya := Hook.val hk) (YP := Hook.says hk) (N := 3872) hd_left (Hook.of hk) (Hook.keeps hk) (fun s e => xl_of s (Bool.and_eq_true_iff.mp e).1) XL.keeps (by rfl) (by rfl) (by rfl) (fun s e => recFacts_of (Bool.and_eq_true_iff.mp e).2) (by rfl) (by first | assumption | decide +kernel) (by decide +kernel) ⟨rfl, rfl, rfl, rfl, rfl, by decide +kernel⟩ ?hw ?hc
  case hw => w_witness2
  clear said
  k_fill
  intro w s₀ s₁ mg mb G Y fa o pm cd doc dV kV ho hd hcd hD hmg hg args vals as hpre hlay hrd hwl hlo
  have KX := kIn_of Y
  refine Ground.open G ?_
  intro T B D TE TW
  refine guard_noD D (by decide +kernel) ?_
  clear D
  clear hmg
  wrow_args hpre hlay hrd hwl hlo
  all_goals (
    first | refine callC_kw (enter_call ?_) | refine enter_call ?_
    w_top on
    try refine codeAny_mono ?_ (fun _ _ g => GoodW.toG g)
    have K0 := below_caller (Top.heap T)
    w_call any ho hd hcd hD T F
    clear hd
    k_drop)
  all_goals try k_fold
  rename News _ _ _ _ => N9
  rename Fr _ _ _ _ => F9
  rename Below _ _ _ _ => B9
  rename Heap.IsList _ _ _ => L9
  rename IntsAre _ _ => I9
  rename Top _ _ _ _ _ _ => T9
  k_dflt (refine head_all (c1 := s₁.heap.objs.size + 1) (c2 := s₁.heap.objs.size + 1 + 1) (c3 := s₁.heap.objs.size + 1 + 1 + 1) (c4 := s₁.heap.objs.size + 1 + 1 + 1 + 1) (c5 := s₁.heap.objs.size + 1 + 1 + 1 + 1 + 1) (c6 := s₁.heap.objs.size + 1 + 1 + 1 + 1 + 1 + 1) (c7 := s₁.heap.objs.size + 1 + 1 + 1 + 1 + 1 + 1 + 1) ?inc ?h ?hs _ _ _ _ _ _ _ _ _ _ _ _ _ _ _ _ B9 F9 KX N9 T9 L9 I9 ?len ?dp ?un ?ret)
  case inc =>
    unfold Inc
    omega
  case h =>
    refine ⟨⟨_, .tail _ (.tail _ (.tail _ (.tail _ (.tail _ (.tail _ (.head _)))))), by assumption⟩, ⟨_, .tail _ (.tail _ (.tail _ (.tail _ (.tail _ (.head _))))), by assumption⟩, ⟨_, .tail _ (.tail _ (.tail _ (.tail _ (.head _)))), by assumption⟩, ⟨_, .tail _ (.tail _ (.tail _ (.head _))), by assumption⟩, ⟨_, .tail _ (.tail _ (.head _)), by assumption⟩, ⟨_, .tail _ (.head _), by assumption⟩, ⟨_, .head _, by assumption⟩, (fun p hp => nomatch hp), (fun p hp => nomatch hp)⟩
  case hs => k_dflt (exact rfl)
  case len => omega
  case dp => exact Nat.le_of_ble_eq_true rfl
  case un => exact Nat.le_of_ble_eq_true rfl
  case ret =>
    intro m' news' h' tk' F' N'
    k_unfold
    dsimp only
    k_steps
end
end Mine
theorem PySem.Challenge.cw_nm0113_01_holds : PySem.Challenge.rw_nm0113_01.Holds :=
  Mine.fin_go
