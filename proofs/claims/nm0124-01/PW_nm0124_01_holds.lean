import PyProof.Rows.All
import Wide.All
import OpenK.AllK
import Wide.FinOn
import Lean
import PySem.Challenge.RW_nm0124_01
open PySem PySem.W PyProof.Rows PySem.Calls
set_option Elab.async false
set_option maxRecDepth 100000
set_option maxHeartbeats 4000000
namespace Mine
-- Mk
noncomputable abbrev pw : Program := PySem.Challenge.pw_nm0124_01
noncomputable def stAt (i : Nat) : Stmt := (PySem.Challenge.pw_nm0124_01.main.body[i]?).getD (.Pass default)
noncomputable def stIn (i j : Nat) : Stmt := match stAt i with | .ClassDef (body := b) .. => (b[j]?).getD (.Pass default) | _ => .Pass default
noncomputable def fnBody : Stmt → List Stmt | .FunctionDef (body := b) .. => b | _ => []
noncomputable def fnParams : Stmt → Arguments | .FunctionDef (args := b) .. => b | _ => default
noncomputable def fnScope : Stmt → Scope | .FunctionDef (scope := b) .. => b | _ => default
noncomputable def fnPos : Stmt → Pos | .FunctionDef (pos := b) .. => b | _ => default
noncomputable def K : Params → Frag := fun P =>
  (nat_lit 2, { cls := .none, data := .dict #[{ hash := PyData.keyHash P (.ofString "type.__subclasses__.Exception.0"), key := .str (.ofString "type.__subclasses__.Exception.0") 221, val := .int 38 0 }, { hash := PyData.keyHash P (.ofString "type.__subclasses__.Exception.n"), key := .str (.ofString "type.__subclasses__.Exception.n") 222, val := .int 1 0 }] 2 }) ::
  (nat_lit 3, { cls := .type "dict", data := .dict #[{ hash := PyData.keyHash P (.ofString "__name__"), key := .str (.ofString "__name__") 165, val := .str (.ofString "law_nm0124_01") 516 }, { hash := PyData.keyHash P (.ofString "__doc__"), key := .str (.ofString "__doc__") 166, val := .none }, { hash := PyData.keyHash P (.ofString "__package__"), key := .str (.ofString "__package__") 167, val := .none }, { hash := PyData.keyHash P (.ofString "__loader__"), key := .str (.ofString "__loader__") 168, val := .builtin "__main__.__loader__#opaque" }, { hash := PyData.keyHash P (.ofString "__spec__"), key := .str (.ofString "__spec__") 169, val := .none }, { hash := PyData.keyHash P (.ofString "__annotations__"), key := .str (.ofString "__annotations__") 170, val := .ref 6 }, { hash := PyData.keyHash P (.ofString "__builtins__"), key := .str (.ofString "__builtins__") 171, val := .ref 4 }, { hash := PyData.keyHash P (.ofString "__file__"), key := .str (.ofString "__file__") 173, val := .str (.ofString "/claim/cut.py") 172 }, { hash := PyData.keyHash P (.ofString "__cached__"), key := .str (.ofString "__cached__") 174, val := .none }, { hash := PyData.keyHash P (.ofString "_wall"), key := .str (.ofString "_wall") 193, val := .ref 21 }, { hash := PyData.keyHash P (.ofString "WasmFault"), key := .str (.ofString "WasmFault") 224, val := .ref 38 }, { hash := PyData.keyHash P (.ofString "Malformed"), key := .str (.ofString "Malformed") 250, val := .ref 58 }, { hash := PyData.keyHash P (.ofString "want_just"), key := .str (.ofString "want_just") 259, val := .ref 67 }, { hash := PyData.keyHash P (.ofString "Cursor"), key := .str (.ofString "Cursor") 407, val := .ref 183 }, { hash := PyData.keyHash P (.ofString "head_of"), key := .str (.ofString "head_of") 415, val := .ref 194 }, { hash := PyData.keyHash P (.ofString "text_of"), key := .str (.ofString "text_of") 430, val := .ref 202 }, { hash := PyData.keyHash P (.ofString "MODULE_PART"), key := .str (.ofString "MODULE_PART") 434, val := .int 0 433 }, { hash := PyData.keyHash P (.ofString "FUNCS_PART"), key := .str (.ofString "FUNCS_PART") 436, val := .int 1 435 }, { hash := PyData.keyHash P (.ofString "LOCALS_PART"), key := .str (.ofString "LOCALS_PART") 438, val := .int 2 437 }, { hash := PyData.keyHash P (.ofString "Names"), key := .str (.ofString "Names") 469, val := .ref 219 }, { hash := PyData.keyHash P (.ofString "read_map"), key := .str (.ofString "read_map") 481, val := .ref 230 }, { hash := PyData.keyHash P (.ofString "read_locals"), key := .str (.ofString "read_locals") 493, val := .ref 237 }, { hash := PyData.keyHash P (.ofString "read_part"), key := .str (.ofString "read_part") 502, val := .ref 244 }, { hash := PyData.keyHash P (.ofString "read_section"), key := .str (.ofString "read_section") 515, val := .ref 251 }, { hash := PyData.keyHash P (.ofString "_law_next"), key := .str (.ofString "_law_next") 524, val := .ref 258 }, { hash := PyData.keyHash P (.ofString "_law_number"), key := .str (.ofString "_law_number") 531, val := .ref 265 }, { hash := PyData.keyHash P (.ofString "_law_sign"), key := .str (.ofString "_law_sign") 537, val := .ref 270 }, { hash := PyData.keyHash P (.ofString "_law_told"), key := .str (.ofString "_law_told") 543, val := .ref 275 }, { hash := PyData.keyHash P (.ofString "_law_text"), key := .str (.ofString "_law_text") 553, val := .ref 282 }, { hash := PyData.keyHash P (.ofString "_law_some"), key := .str (.ofString "_law_some") 564, val := .ref 289 }, { hash := PyData.keyHash P (.ofString "_law_map"), key := .str (.ofString "_law_map") 573, val := .ref 296 }, { hash := PyData.keyHash P (.ofString "_law_part"), key := .str (.ofString "_law_part") 581, val := .ref 303 }, { hash := PyData.keyHash P (.ofString "_law_written"), key := .str (.ofString "_law_written") 593, val := .ref 310 }, { hash := PyData.keyHash P (.ofString "_law_changed"), key := .str (.ofString "_law_changed") 604, val := .ref 317 }, { hash := PyData.keyHash P (.ofString "_law_u32"), key := .str (.ofString "_law_u32") 614, val := .ref 324 }, { hash := PyData.keyHash P (.ofString "_law_name"), key := .str (.ofString "_law_name") 629, val := .ref 331 }, { hash := PyData.keyHash P (.ofString "_law_names"), key := .str (.ofString "_law_names") 642, val := .ref 338 }, { hash := PyData.keyHash P (.ofString "_law_rows"), key := .str (.ofString "_law_rows") 654, val := .ref 345 }, { hash := PyData.keyHash P (.ofString "_law_read"), key := .str (.ofString "_law_read") 669, val := .ref 352 }, { hash := PyData.keyHash P (.ofString "_law_is_told"), key := .str (.ofString "_law_is_told") 683, val := .ref 359 }, { hash := PyData.keyHash P (.ofString "law"), key := .str (.ofString "law") 701, val := .ref 366 }] 41 }) ::
  (nat_lit 15, { cls := .type "tuple", data := .seq #[] }) ::
  (nat_lit 17, { cls := .type "tuple", data := .seq #[.str (.ofString "k") 190] }) ::
  (nat_lit 18, { cls := .type "tuple", data := .seq #[] }) ::
  (nat_lit 20, { cls := .type "code", data := .fields #[.str (.ofString "_wall") 187, .str (.ofString "_wall") 188, .str (.ofString "/claim/cut.py") 189, .int 1 0, .int 1 0, .int 0 0, .int 0 0, .int 3 0, .ref 15, .bool true, .int 181 0, .ref 16, .none, .ref 17, .ref 18, .ref 19, .int 191 0, .int 1 0, .str (.ofString "/claim/cut.py") 192] }) ::
  (nat_lit 21, { cls := .type "function", data := .func { name := .ofString "_wall", qualname := .ofString "_wall", params := fnParams (stAt 0), body := FuncBody.stmts (fnBody (stAt 0)), scope := fnScope (stAt 0), globals := 3, closure := [], defaults := .none, kwdefaults := .none, pyModule := .str (.ofString "__main__") 164, code := .ref 20 } }) ::
  (nat_lit 22, { cls := .type "tuple", data := .seq #[.type "Exception"] }) ::
  (nat_lit 29, { cls := .type "tuple", data := .seq #[] }) ::
  (nat_lit 31, { cls := .type "tuple", data := .seq #[.str (.ofString "self") 211, .str (.ofString "why") 212] }) ::
  (nat_lit 32, { cls := .type "tuple", data := .seq #[] }) ::
  (nat_lit 34, { cls := .type "code", data := .fields #[.str (.ofString "__init__") 208, .str (.ofString "WasmFault.__init__") 209, .str (.ofString "/claim/cut.py") 210, .int 7 0, .int 2 0, .int 0 0, .int 0 0, .int 3 0, .ref 29, .bool true, .int 181 0, .ref 30, .none, .ref 31, .ref 32, .ref 33, .int 213 0, .int 7 0, .str (.ofString "/claim/cut.py") 214] }) ::
  (nat_lit 35, { cls := .type "function", data := .func { name := .ofString "__init__", qualname := .ofString "WasmFault.__init__", params := fnParams (stIn 2 0), body := FuncBody.stmts (fnBody (stIn 2 0)), scope := fnScope (stIn 2 0), globals := 3, closure := [], defaults := .none, kwdefaults := .none, pyModule := .str (.ofString "wasmcore.faults") 194, code := .ref 34 } }) ::
  (nat_lit 36, { cls := .type "tuple", data := .seq #[.str (.ofString "why") 216] }) ::
  (nat_lit 37, { cls := .type "dict", data := .dict #[{ hash := PyData.keyHash P (.ofString "__module__"), key := .str (.ofString "__module__") 203, val := .str (.ofString "wasmcore.faults") 194 }, { hash := PyData.keyHash P (.ofString "__firstlineno__"), key := .str (.ofString "__firstlineno__") 207, val := .int 5 206 }, { hash := PyData.keyHash P (.ofString "__init__"), key := .str (.ofString "__init__") 215, val := .ref 35 }, { hash := PyData.keyHash P (.ofString "__static_attributes__"), key := .str (.ofString "__static_attributes__") 217, val := .ref 36 }, { hash := PyData.keyHash P (.ofString "__weakref__"), key := .str (.ofString "__weakref__") 219, val := .ref 39 }, { hash := PyData.keyHash P (.ofString "__doc__"), key := .str (.ofString "__doc__") 220, val := .none }] 3 }) ::
  (nat_lit 38, { cls := .type "type", data := Data.cls { name := .ofString "WasmFault", bases := [.type "Exception"], mro := [.ref 38, .type "Exception", .type "BaseException", .type "object"], ns := 37, qualname := .ofString "WasmFault", subclasses := [.ref 58] }, slots := #[some (.ref 22), none, some (.str (.ofString "WasmFault") 196), some (.str (.ofString "WasmFault") 204), some (.builtin "Exception.__new__"), some (.bool true)] }) ::
  (nat_lit 39, { cls := .type "getset_descriptor", data := .fields #[.str (.ofString "__weakref__") 218, .ref 38, .builtin "ExceptionGroup.__weakref__", .none] }) ::
  (nat_lit 42, { cls := .type "tuple", data := .seq #[.ref 38] }) ::
  (nat_lit 49, { cls := .type "tuple", data := .seq #[] }) ::
  (nat_lit 51, { cls := .type "tuple", data := .seq #[.str (.ofString "self") 240, .str (.ofString "why") 241, .str (.ofString "at") 242] }) ::
  (nat_lit 52, { cls := .type "tuple", data := .seq #[] }) ::
  (nat_lit 54, { cls := .type "code", data := .fields #[.str (.ofString "__init__") 237, .str (.ofString "Malformed.__init__") 238, .str (.ofString "/claim/cut.py") 239, .int 12 0, .int 3 0, .int 0 0, .int 0 0, .int 3 0, .ref 49, .bool true, .int 181 0, .ref 50, .none, .ref 51, .ref 52, .ref 53, .int 243 0, .int 12 0, .str (.ofString "/claim/cut.py") 244] }) ::
  (nat_lit 55, { cls := .type "function", data := .func { name := .ofString "__init__", qualname := .ofString "Malformed.__init__", params := fnParams (stIn 3 0), body := FuncBody.stmts (fnBody (stIn 3 0)), scope := fnScope (stIn 3 0), globals := 3, closure := [], defaults := .none, kwdefaults := .none, pyModule := .str (.ofString "wasmcore.faults") 194, code := .ref 54 } }) ::
  (nat_lit 56, { cls := .type "tuple", data := .seq #[.str (.ofString "at") 246] }) ::
  (nat_lit 57, { cls := .type "dict", data := .dict #[{ hash := PyData.keyHash P (.ofString "__module__"), key := .str (.ofString "__module__") 232, val := .str (.ofString "wasmcore.faults") 194 }, { hash := PyData.keyHash P (.ofString "__firstlineno__"), key := .str (.ofString "__firstlineno__") 236, val := .int 10 235 }, { hash := PyData.keyHash P (.ofString "__init__"), key := .str (.ofString "__init__") 245, val := .ref 55 }, { hash := PyData.keyHash P (.ofString "__static_attributes__"), key := .str (.ofString "__static_attributes__") 247, val := .ref 56 }, { hash := PyData.keyHash P (.ofString "__doc__"), key := .str (.ofString "__doc__") 248, val := .none }] 2 }) ::
  (nat_lit 58, { cls := .type "type", data := Data.cls { name := .ofString "Malformed", bases := [.ref 38], mro := [.ref 58, .ref 38, .type "Exception", .type "BaseException", .type "object"], ns := 57, qualname := .ofString "Malformed" }, slots := #[some (.ref 42), none, some (.str (.ofString "Malformed") 225), some (.str (.ofString "Malformed") 233), some (.builtin "Exception.__new__"), some (.bool true)] }) ::
  (nat_lit 61, { cls := .type "tuple", data := .seq #[] }) ::
  (nat_lit 63, { cls := .type "tuple", data := .seq #[.str (.ofString "part") 256] }) ::
  (nat_lit 64, { cls := .type "tuple", data := .seq #[] }) ::
  (nat_lit 66, { cls := .type "code", data := .fields #[.str (.ofString "want_just") 253, .str (.ofString "want_just") 254, .str (.ofString "/claim/cut.py") 255, .int 16 0, .int 1 0, .int 0 0, .int 0 0, .int 3 0, .ref 61, .bool true, .int 181 0, .ref 62, .none, .ref 63, .ref 64, .ref 65, .int 257 0, .int 16 0, .str (.ofString "/claim/cut.py") 258] }) ::
  (nat_lit 67, { cls := .type "function", data := .func { name := .ofString "want_just", qualname := .ofString "want_just", params := fnParams (stAt 5), body := FuncBody.stmts (fnBody (stAt 5)), scope := fnScope (stAt 5), globals := 3, closure := [], defaults := .none, kwdefaults := .none, pyModule := .str (.ofString "wasmcore.binsections") 251, code := .ref 66 } }) ::
  (nat_lit 75, { cls := .type "tuple", data := .seq #[.int 0 274, .none] }) ::
  (nat_lit 76, { cls := .type "tuple", data := .seq #[] }) ::
  (nat_lit 78, { cls := .type "tuple", data := .seq #[.str (.ofString "self") 278, .str (.ofString "octets") 279, .str (.ofString "at") 280, .str (.ofString "end") 281] }) ::
  (nat_lit 79, { cls := .type "tuple", data := .seq #[] }) ::
  (nat_lit 81, { cls := .type "code", data := .fields #[.str (.ofString "__init__") 275, .str (.ofString "Cursor.__init__") 276, .str (.ofString "/claim/cut.py") 277, .int 22 0, .int 4 0, .int 0 0, .int 0 0, .int 3 0, .ref 76, .bool true, .int 181 0, .ref 77, .none, .ref 78, .ref 79, .ref 80, .int 282 0, .int 22 0, .str (.ofString "/claim/cut.py") 283] }) ::
  (nat_lit 82, { cls := .type "function", data := .func { name := .ofString "__init__", qualname := .ofString "Cursor.__init__", params := fnParams (stIn 7 0), body := FuncBody.stmts (fnBody (stIn 7 0)), scope := fnScope (stIn 7 0), globals := 3, closure := [], defaults := .ref 75, kwdefaults := .none, pyModule := .str (.ofString "wasmcore.octets") 260, code := .ref 81 } }) ::
  (nat_lit 83, { cls := .type "tuple", data := .seq #[] }) ::
  (nat_lit 85, { cls := .type "tuple", data := .seq #[.str (.ofString "self") 288] }) ::
  (nat_lit 86, { cls := .type "tuple", data := .seq #[] }) ::
  (nat_lit 88, { cls := .type "code", data := .fields #[.str (.ofString "left") 285, .str (.ofString "Cursor.left") 286, .str (.ofString "/claim/cut.py") 287, .int 27 0, .int 1 0, .int 0 0, .int 0 0, .int 3 0, .ref 83, .bool true, .int 181 0, .ref 84, .none, .ref 85, .ref 86, .ref 87, .int 289 0, .int 27 0, .str (.ofString "/claim/cut.py") 290] }) ::
  (nat_lit 89, { cls := .type "function", data := .func { name := .ofString "left", qualname := .ofString "Cursor.left", params := fnParams (stIn 7 1), body := FuncBody.stmts (fnBody (stIn 7 1)), scope := fnScope (stIn 7 1), globals := 3, closure := [], defaults := .none, kwdefaults := .none, pyModule := .str (.ofString "wasmcore.octets") 260, code := .ref 88 } }) ::
  (nat_lit 90, { cls := .type "tuple", data := .seq #[] }) ::
  (nat_lit 92, { cls := .type "tuple", data := .seq #[.str (.ofString "self") 295] }) ::
  (nat_lit 93, { cls := .type "tuple", data := .seq #[] }) ::
  (nat_lit 95, { cls := .type "code", data := .fields #[.str (.ofString "is_done") 292, .str (.ofString "Cursor.is_done") 293, .str (.ofString "/claim/cut.py") 294, .int 30 0, .int 1 0, .int 0 0, .int 0 0, .int 3 0, .ref 90, .bool true, .int 181 0, .ref 91, .none, .ref 92, .ref 93, .ref 94, .int 296 0, .int 30 0, .str (.ofString "/claim/cut.py") 297] }) ::
  (nat_lit 96, { cls := .type "function", data := .func { name := .ofString "is_done", qualname := .ofString "Cursor.is_done", params := fnParams (stIn 7 2), body := FuncBody.stmts (fnBody (stIn 7 2)), scope := fnScope (stIn 7 2), globals := 3, closure := [], defaults := .none, kwdefaults := .none, pyModule := .str (.ofString "wasmcore.octets") 260, code := .ref 95 } }) ::
  (nat_lit 97, { cls := .type "tuple", data := .seq #[] }) ::
  (nat_lit 99, { cls := .type "tuple", data := .seq #[.str (.ofString "self") 302] }) ::
  (nat_lit 100, { cls := .type "tuple", data := .seq #[] }) ::
  (nat_lit 102, { cls := .type "code", data := .fields #[.str (.ofString "peek") 299, .str (.ofString "Cursor.peek") 300, .str (.ofString "/claim/cut.py") 301, .int 33 0, .int 1 0, .int 0 0, .int 0 0, .int 3 0, .ref 97, .bool true, .int 181 0, .ref 98, .none, .ref 99, .ref 100, .ref 101, .int 303 0, .int 33 0, .str (.ofString "/claim/cut.py") 304] }) ::
  (nat_lit 103, { cls := .type "function", data := .func { name := .ofString "peek", qualname := .ofString "Cursor.peek", params := fnParams (stIn 7 3), body := FuncBody.stmts (fnBody (stIn 7 3)), scope := fnScope (stIn 7 3), globals := 3, closure := [], defaults := .none, kwdefaults := .none, pyModule := .str (.ofString "wasmcore.octets") 260, code := .ref 102 } }) ::
  (nat_lit 104, { cls := .type "tuple", data := .seq #[] }) ::
  (nat_lit 106, { cls := .type "tuple", data := .seq #[.str (.ofString "self") 309, .str (.ofString "found") 310] }) ::
  (nat_lit 107, { cls := .type "tuple", data := .seq #[] }) ::
  (nat_lit 109, { cls := .type "code", data := .fields #[.str (.ofString "octet") 306, .str (.ofString "Cursor.octet") 307, .str (.ofString "/claim/cut.py") 308, .int 38 0, .int 1 0, .int 0 0, .int 0 0, .int 3 0, .ref 104, .bool true, .int 181 0, .ref 105, .none, .ref 106, .ref 107, .ref 108, .int 311 0, .int 38 0, .str (.ofString "/claim/cut.py") 312] }) ::
  (nat_lit 110, { cls := .type "function", data := .func { name := .ofString "octet", qualname := .ofString "Cursor.octet", params := fnParams (stIn 7 4), body := FuncBody.stmts (fnBody (stIn 7 4)), scope := fnScope (stIn 7 4), globals := 3, closure := [], defaults := .none, kwdefaults := .none, pyModule := .str (.ofString "wasmcore.octets") 260, code := .ref 109 } }) ::
  (nat_lit 111, { cls := .type "tuple", data := .seq #[] }) ::
  (nat_lit 113, { cls := .type "tuple", data := .seq #[.str (.ofString "self") 317, .str (.ofString "many") 318, .str (.ofString "found") 319] }) ::
  (nat_lit 114, { cls := .type "tuple", data := .seq #[] }) ::
  (nat_lit 116, { cls := .type "code", data := .fields #[.str (.ofString "take") 314, .str (.ofString "Cursor.take") 315, .str (.ofString "/claim/cut.py") 316, .int 43 0, .int 2 0, .int 0 0, .int 0 0, .int 3 0, .ref 111, .bool true, .int 181 0, .ref 112, .none, .ref 113, .ref 114, .ref 115, .int 320 0, .int 43 0, .str (.ofString "/claim/cut.py") 321] }) ::
  (nat_lit 117, { cls := .type "function", data := .func { name := .ofString "take", qualname := .ofString "Cursor.take", params := fnParams (stIn 7 5), body := FuncBody.stmts (fnBody (stIn 7 5)), scope := fnScope (stIn 7 5), globals := 3, closure := [], defaults := .none, kwdefaults := .none, pyModule := .str (.ofString "wasmcore.octets") 260, code := .ref 116 } }) ::
  (nat_lit 118, { cls := .type "tuple", data := .seq #[] }) ::
  (nat_lit 120, { cls := .type "tuple", data := .seq #[.str (.ofString "self") 326, .str (.ofString "many") 327, .str (.ofString "found") 328] }) ::
  (nat_lit 121, { cls := .type "tuple", data := .seq #[] }) ::
  (nat_lit 123, { cls := .type "code", data := .fields #[.str (.ofString "part") 323, .str (.ofString "Cursor.part") 324, .str (.ofString "/claim/cut.py") 325, .int 50 0, .int 2 0, .int 0 0, .int 0 0, .int 3 0, .ref 118, .bool true, .int 181 0, .ref 119, .none, .ref 120, .ref 121, .ref 122, .int 329 0, .int 50 0, .str (.ofString "/claim/cut.py") 330] }) ::
  (nat_lit 124, { cls := .type "function", data := .func { name := .ofString "part", qualname := .ofString "Cursor.part", params := fnParams (stIn 7 6), body := FuncBody.stmts (fnBody (stIn 7 6)), scope := fnScope (stIn 7 6), globals := 3, closure := [], defaults := .none, kwdefaults := .none, pyModule := .str (.ofString "wasmcore.octets") 260, code := .ref 123 } }) ::
  (nat_lit 125, { cls := .type "tuple", data := .seq #[] }) ::
  (nat_lit 127, { cls := .type "tuple", data := .seq #[.str (.ofString "self") 335, .str (.ofString "bits") 336, .str (.ofString "found") 337, .str (.ofString "shift") 338, .str (.ofString "begin") 339, .str (.ofString "octet") 340, .str (.ofString "left") 341] }) ::
  (nat_lit 128, { cls := .type "tuple", data := .seq #[] }) ::
  (nat_lit 130, { cls := .type "code", data := .fields #[.str (.ofString "unsigned") 332, .str (.ofString "Cursor.unsigned") 333, .str (.ofString "/claim/cut.py") 334, .int 57 0, .int 2 0, .int 0 0, .int 0 0, .int 3 0, .ref 125, .bool true, .int 181 0, .ref 126, .none, .ref 127, .ref 128, .ref 129, .int 342 0, .int 57 0, .str (.ofString "/claim/cut.py") 343] }) ::
  (nat_lit 131, { cls := .type "function", data := .func { name := .ofString "unsigned", qualname := .ofString "Cursor.unsigned", params := fnParams (stIn 7 7), body := FuncBody.stmts (fnBody (stIn 7 7)), scope := fnScope (stIn 7 7), globals := 3, closure := [], defaults := .none, kwdefaults := .none, pyModule := .str (.ofString "wasmcore.octets") 260, code := .ref 130 } }) ::
  (nat_lit 132, { cls := .type "tuple", data := .seq #[] }) ::
  (nat_lit 134, { cls := .type "tuple", data := .seq #[.str (.ofString "self") 348, .str (.ofString "bits") 349] }) ::
  (nat_lit 135, { cls := .type "tuple", data := .seq #[] }) ::
  (nat_lit 137, { cls := .type "code", data := .fields #[.str (.ofString "signed") 345, .str (.ofString "Cursor.signed") 346, .str (.ofString "/claim/cut.py") 347, .int 71 0, .int 2 0, .int 0 0, .int 0 0, .int 3 0, .ref 132, .bool true, .int 181 0, .ref 133, .none, .ref 134, .ref 135, .ref 136, .int 350 0, .int 71 0, .str (.ofString "/claim/cut.py") 351] }) ::
  (nat_lit 138, { cls := .type "function", data := .func { name := .ofString "signed", qualname := .ofString "Cursor.signed", params := fnParams (stIn 7 8), body := FuncBody.stmts (fnBody (stIn 7 8)), scope := fnScope (stIn 7 8), globals := 3, closure := [], defaults := .none, kwdefaults := .none, pyModule := .str (.ofString "wasmcore.octets") 260, code := .ref 137 } }) ::
  (nat_lit 139, { cls := .type "tuple", data := .seq #[] }) ::
  (nat_lit 141, { cls := .type "tuple", data := .seq #[.str (.ofString "self") 356] }) ::
  (nat_lit 142, { cls := .type "tuple", data := .seq #[] }) ::
  (nat_lit 144, { cls := .type "code", data := .fields #[.str (.ofString "u32") 353, .str (.ofString "Cursor.u32") 354, .str (.ofString "/claim/cut.py") 355, .int 74 0, .int 1 0, .int 0 0, .int 0 0, .int 3 0, .ref 139, .bool true, .int 181 0, .ref 140, .none, .ref 141, .ref 142, .ref 143, .int 357 0, .int 74 0, .str (.ofString "/claim/cut.py") 358] }) ::
  (nat_lit 145, { cls := .type "function", data := .func { name := .ofString "u32", qualname := .ofString "Cursor.u32", params := fnParams (stIn 7 9), body := FuncBody.stmts (fnBody (stIn 7 9)), scope := fnScope (stIn 7 9), globals := 3, closure := [], defaults := .none, kwdefaults := .none, pyModule := .str (.ofString "wasmcore.octets") 260, code := .ref 144 } }) ::
  (nat_lit 146, { cls := .type "tuple", data := .seq #[] }) ::
  (nat_lit 148, { cls := .type "tuple", data := .seq #[.str (.ofString "self") 363] }) ::
  (nat_lit 149, { cls := .type "tuple", data := .seq #[] }) ::
  (nat_lit 151, { cls := .type "code", data := .fields #[.str (.ofString "s7") 360, .str (.ofString "Cursor.s7") 361, .str (.ofString "/claim/cut.py") 362, .int 77 0, .int 1 0, .int 0 0, .int 0 0, .int 3 0, .ref 146, .bool true, .int 181 0, .ref 147, .none, .ref 148, .ref 149, .ref 150, .int 364 0, .int 77 0, .str (.ofString "/claim/cut.py") 365] }) ::
  (nat_lit 152, { cls := .type "function", data := .func { name := .ofString "s7", qualname := .ofString "Cursor.s7", params := fnParams (stIn 7 10), body := FuncBody.stmts (fnBody (stIn 7 10)), scope := fnScope (stIn 7 10), globals := 3, closure := [], defaults := .none, kwdefaults := .none, pyModule := .str (.ofString "wasmcore.octets") 260, code := .ref 151 } }) ::
  (nat_lit 153, { cls := .type "tuple", data := .seq #[] }) ::
  (nat_lit 155, { cls := .type "tuple", data := .seq #[.str (.ofString "self") 370] }) ::
  (nat_lit 156, { cls := .type "tuple", data := .seq #[] }) ::
  (nat_lit 158, { cls := .type "code", data := .fields #[.str (.ofString "s32") 367, .str (.ofString "Cursor.s32") 368, .str (.ofString "/claim/cut.py") 369, .int 80 0, .int 1 0, .int 0 0, .int 0 0, .int 3 0, .ref 153, .bool true, .int 181 0, .ref 154, .none, .ref 155, .ref 156, .ref 157, .int 371 0, .int 80 0, .str (.ofString "/claim/cut.py") 372] }) ::
  (nat_lit 159, { cls := .type "function", data := .func { name := .ofString "s32", qualname := .ofString "Cursor.s32", params := fnParams (stIn 7 11), body := FuncBody.stmts (fnBody (stIn 7 11)), scope := fnScope (stIn 7 11), globals := 3, closure := [], defaults := .none, kwdefaults := .none, pyModule := .str (.ofString "wasmcore.octets") 260, code := .ref 158 } }) ::
  (nat_lit 160, { cls := .type "tuple", data := .seq #[] }) ::
  (nat_lit 162, { cls := .type "tuple", data := .seq #[.str (.ofString "self") 377] }) ::
  (nat_lit 163, { cls := .type "tuple", data := .seq #[] }) ::
  (nat_lit 165, { cls := .type "code", data := .fields #[.str (.ofString "s33") 374, .str (.ofString "Cursor.s33") 375, .str (.ofString "/claim/cut.py") 376, .int 83 0, .int 1 0, .int 0 0, .int 0 0, .int 3 0, .ref 160, .bool true, .int 181 0, .ref 161, .none, .ref 162, .ref 163, .ref 164, .int 378 0, .int 83 0, .str (.ofString "/claim/cut.py") 379] }) ::
  (nat_lit 166, { cls := .type "function", data := .func { name := .ofString "s33", qualname := .ofString "Cursor.s33", params := fnParams (stIn 7 12), body := FuncBody.stmts (fnBody (stIn 7 12)), scope := fnScope (stIn 7 12), globals := 3, closure := [], defaults := .none, kwdefaults := .none, pyModule := .str (.ofString "wasmcore.octets") 260, code := .ref 165 } }) ::
  (nat_lit 167, { cls := .type "tuple", data := .seq #[] }) ::
  (nat_lit 169, { cls := .type "tuple", data := .seq #[.str (.ofString "self") 384] }) ::
  (nat_lit 170, { cls := .type "tuple", data := .seq #[] }) ::
  (nat_lit 172, { cls := .type "code", data := .fields #[.str (.ofString "s64") 381, .str (.ofString "Cursor.s64") 382, .str (.ofString "/claim/cut.py") 383, .int 86 0, .int 1 0, .int 0 0, .int 0 0, .int 3 0, .ref 167, .bool true, .int 181 0, .ref 168, .none, .ref 169, .ref 170, .ref 171, .int 385 0, .int 86 0, .str (.ofString "/claim/cut.py") 386] }) ::
  (nat_lit 173, { cls := .type "function", data := .func { name := .ofString "s64", qualname := .ofString "Cursor.s64", params := fnParams (stIn 7 13), body := FuncBody.stmts (fnBody (stIn 7 13)), scope := fnScope (stIn 7 13), globals := 3, closure := [], defaults := .none, kwdefaults := .none, pyModule := .str (.ofString "wasmcore.octets") 260, code := .ref 172 } }) ::
  (nat_lit 174, { cls := .type "tuple", data := .seq #[] }) ::
  (nat_lit 176, { cls := .type "tuple", data := .seq #[.str (.ofString "self") 391, .str (.ofString "many") 392, .str (.ofString "begin") 393] }) ::
  (nat_lit 177, { cls := .type "tuple", data := .seq #[] }) ::
  (nat_lit 179, { cls := .type "code", data := .fields #[.str (.ofString "name") 388, .str (.ofString "Cursor.name") 389, .str (.ofString "/claim/cut.py") 390, .int 89 0, .int 1 0, .int 0 0, .int 0 0, .int 3 0, .ref 174, .bool true, .int 181 0, .ref 175, .none, .ref 176, .ref 177, .ref 178, .int 394 0, .int 89 0, .str (.ofString "/claim/cut.py") 395] }) ::
  (nat_lit 180, { cls := .type "function", data := .func { name := .ofString "name", qualname := .ofString "Cursor.name", params := fnParams (stIn 7 14), body := FuncBody.stmts (fnBody (stIn 7 14)), scope := fnScope (stIn 7 14), globals := 3, closure := [], defaults := .none, kwdefaults := .none, pyModule := .str (.ofString "wasmcore.octets") 260, code := .ref 179 } }) ::
  (nat_lit 181, { cls := .type "tuple", data := .seq #[.str (.ofString "at") 397, .str (.ofString "end") 398, .str (.ofString "octets") 399] }) ::
  (nat_lit 182, { cls := .type "dict", data := .dict #[{ hash := PyData.keyHash P (.ofString "__module__"), key := .str (.ofString "__module__") 269, val := .str (.ofString "wasmcore.octets") 260 }, { hash := PyData.keyHash P (.ofString "__firstlineno__"), key := .str (.ofString "__firstlineno__") 273, val := .int 20 272 }, { hash := PyData.keyHash P (.ofString "__init__"), key := .str (.ofString "__init__") 284, val := .ref 82 }, { hash := PyData.keyHash P (.ofString "left"), key := .str (.ofString "left") 291, val := .ref 89 }, { hash := PyData.keyHash P (.ofString "is_done"), key := .str (.ofString "is_done") 298, val := .ref 96 }, { hash := PyData.keyHash P (.ofString "peek"), key := .str (.ofString "peek") 305, val := .ref 103 }, { hash := PyData.keyHash P (.ofString "octet"), key := .str (.ofString "octet") 313, val := .ref 110 }, { hash := PyData.keyHash P (.ofString "take"), key := .str (.ofString "take") 322, val := .ref 117 }, { hash := PyData.keyHash P (.ofString "part"), key := .str (.ofString "part") 331, val := .ref 124 }, { hash := PyData.keyHash P (.ofString "unsigned"), key := .str (.ofString "unsigned") 344, val := .ref 131 }, { hash := PyData.keyHash P (.ofString "signed"), key := .str (.ofString "signed") 352, val := .ref 138 }, { hash := PyData.keyHash P (.ofString "u32"), key := .str (.ofString "u32") 359, val := .ref 145 }, { hash := PyData.keyHash P (.ofString "s7"), key := .str (.ofString "s7") 366, val := .ref 152 }, { hash := PyData.keyHash P (.ofString "s32"), key := .str (.ofString "s32") 373, val := .ref 159 }, { hash := PyData.keyHash P (.ofString "s33"), key := .str (.ofString "s33") 380, val := .ref 166 }, { hash := PyData.keyHash P (.ofString "s64"), key := .str (.ofString "s64") 387, val := .ref 173 }, { hash := PyData.keyHash P (.ofString "name"), key := .str (.ofString "name") 396, val := .ref 180 }, { hash := PyData.keyHash P (.ofString "__static_attributes__"), key := .str (.ofString "__static_attributes__") 400, val := .ref 181 }, { hash := PyData.keyHash P (.ofString "__dict__"), key := .str (.ofString "__dict__") 402, val := .ref 184 }, { hash := PyData.keyHash P (.ofString "__weakref__"), key := .str (.ofString "__weakref__") 404, val := .ref 185 }, { hash := PyData.keyHash P (.ofString "__doc__"), key := .str (.ofString "__doc__") 405, val := .none }] 4 }) ::
  (nat_lit 183, { cls := .type "type", data := Data.cls { name := .ofString "Cursor", bases := [.type "object"], mro := [.ref 183, .type "object"], ns := 182, qualname := .ofString "Cursor" }, slots := #[none, none, some (.str (.ofString "Cursor") 262), some (.str (.ofString "Cursor") 270), some (.builtin "object.__new__"), some (.bool true)] }) ::
  (nat_lit 184, { cls := .type "getset_descriptor", data := .fields #[.str (.ofString "__dict__") 401, .ref 183, .builtin "function.__dict__", .builtin "function.__dict__#set"] }) ::
  (nat_lit 185, { cls := .type "getset_descriptor", data := .fields #[.str (.ofString "__weakref__") 403, .ref 183, .builtin "ExceptionGroup.__weakref__", .none] }) ::
  (nat_lit 188, { cls := .type "tuple", data := .seq #[] }) ::
  (nat_lit 190, { cls := .type "tuple", data := .seq #[.str (.ofString "octet") 411, .str (.ofString "at") 412] }) ::
  (nat_lit 191, { cls := .type "tuple", data := .seq #[] }) ::
  (nat_lit 193, { cls := .type "code", data := .fields #[.str (.ofString "head_of") 408, .str (.ofString "head_of") 409, .str (.ofString "/claim/cut.py") 410, .int 95 0, .int 2 0, .int 0 0, .int 0 0, .int 3 0, .ref 188, .bool true, .int 181 0, .ref 189, .none, .ref 190, .ref 191, .ref 192, .int 413 0, .int 95 0, .str (.ofString "/claim/cut.py") 414] }) ::
  (nat_lit 194, { cls := .type "function", data := .func { name := .ofString "head_of", qualname := .ofString "head_of", params := fnParams (stAt 8), body := FuncBody.stmts (fnBody (stAt 8)), scope := fnScope (stAt 8), globals := 3, closure := [], defaults := .none, kwdefaults := .none, pyModule := .str (.ofString "wasmcore.octets") 260, code := .ref 193 } }) ::
  (nat_lit 195, { cls := .type "tuple", data := .seq #[.int 0 416] }) ::
  (nat_lit 196, { cls := .type "tuple", data := .seq #[] }) ::
  (nat_lit 198, { cls := .type "tuple", data := .seq #[.str (.ofString "octets") 420, .str (.ofString "begin") 421, .str (.ofString "signs") 422, .str (.ofString "at") 423, .str (.ofString "follow") 424, .str (.ofString "point") 425, .str (.ofString "least") 426, .str (.ofString "octet") 427] }) ::
  (nat_lit 199, { cls := .type "tuple", data := .seq #[] }) ::
  (nat_lit 201, { cls := .type "code", data := .fields #[.str (.ofString "text_of") 417, .str (.ofString "text_of") 418, .str (.ofString "/claim/cut.py") 419, .int 105 0, .int 2 0, .int 0 0, .int 0 0, .int 3 0, .ref 196, .bool true, .int 181 0, .ref 197, .none, .ref 198, .ref 199, .ref 200, .int 428 0, .int 105 0, .str (.ofString "/claim/cut.py") 429] }) ::
  (nat_lit 202, { cls := .type "function", data := .func { name := .ofString "text_of", qualname := .ofString "text_of", params := fnParams (stAt 9), body := FuncBody.stmts (fnBody (stAt 9)), scope := fnScope (stAt 9), globals := 3, closure := [], defaults := .ref 195, kwdefaults := .none, pyModule := .str (.ofString "wasmcore.octets") 260, code := .ref 201 } }) ::
  (nat_lit 210, { cls := .type "tuple", data := .seq #[] }) ::
  (nat_lit 212, { cls := .type "tuple", data := .seq #[.str (.ofString "self") 454] }) ::
  (nat_lit 213, { cls := .type "tuple", data := .seq #[] }) ::
  (nat_lit 215, { cls := .type "code", data := .fields #[.str (.ofString "__init__") 451, .str (.ofString "Names.__init__") 452, .str (.ofString "/claim/cut.py") 453, .int 126 0, .int 1 0, .int 0 0, .int 0 0, .int 3 0, .ref 210, .bool true, .int 181 0, .ref 211, .none, .ref 212, .ref 213, .ref 214, .int 455 0, .int 126 0, .str (.ofString "/claim/cut.py") 456] }) ::
  (nat_lit 216, { cls := .type "function", data := .func { name := .ofString "__init__", qualname := .ofString "Names.__init__", params := fnParams (stIn 14 0), body := FuncBody.stmts (fnBody (stIn 14 0)), scope := fnScope (stIn 14 0), globals := 3, closure := [], defaults := .none, kwdefaults := .none, pyModule := .str (.ofString "wasmcore.namesect") 431, code := .ref 215 } }) ::
  (nat_lit 217, { cls := .type "tuple", data := .seq #[.str (.ofString "funcs") 458, .str (.ofString "is_whole") 459, .str (.ofString "locals") 460, .str (.ofString "module") 461] }) ::
  (nat_lit 218, { cls := .type "dict", data := .dict #[{ hash := PyData.keyHash P (.ofString "__module__"), key := .str (.ofString "__module__") 446, val := .str (.ofString "wasmcore.namesect") 431 }, { hash := PyData.keyHash P (.ofString "__firstlineno__"), key := .str (.ofString "__firstlineno__") 450, val := .int 124 449 }, { hash := PyData.keyHash P (.ofString "__init__"), key := .str (.ofString "__init__") 457, val := .ref 216 }, { hash := PyData.keyHash P (.ofString "__static_attributes__"), key := .str (.ofString "__static_attributes__") 462, val := .ref 217 }, { hash := PyData.keyHash P (.ofString "__dict__"), key := .str (.ofString "__dict__") 464, val := .ref 220 }, { hash := PyData.keyHash P (.ofString "__weakref__"), key := .str (.ofString "__weakref__") 466, val := .ref 221 }, { hash := PyData.keyHash P (.ofString "__doc__"), key := .str (.ofString "__doc__") 467, val := .none }] 4 }) ::
  (nat_lit 219, { cls := .type "type", data := Data.cls { name := .ofString "Names", bases := [.type "object"], mro := [.ref 219, .type "object"], ns := 218, qualname := .ofString "Names" }, slots := #[none, none, some (.str (.ofString "Names") 439), some (.str (.ofString "Names") 447), some (.builtin "object.__new__"), some (.bool true)] }) ::
  (nat_lit 220, { cls := .type "getset_descriptor", data := .fields #[.str (.ofString "__dict__") 463, .ref 219, .builtin "function.__dict__", .builtin "function.__dict__#set"] }) ::
  (nat_lit 221, { cls := .type "getset_descriptor", data := .fields #[.str (.ofString "__weakref__") 465, .ref 219, .builtin "ExceptionGroup.__weakref__", .none] }) ::
  (nat_lit 224, { cls := .type "tuple", data := .seq #[] }) ::
  (nat_lit 226, { cls := .type "tuple", data := .seq #[.str (.ofString "part") 473, .str (.ofString "found") 474, .str (.ofString "last") 475, .str (.ofString "turn") 476, .str (.ofString "at") 477, .str (.ofString "index") 478] }) ::
  (nat_lit 227, { cls := .type "tuple", data := .seq #[] }) ::
  (nat_lit 229, { cls := .type "code", data := .fields #[.str (.ofString "read_map") 470, .str (.ofString "read_map") 471, .str (.ofString "/claim/cut.py") 472, .int 131 0, .int 2 0, .int 0 0, .int 0 0, .int 3 0, .ref 224, .bool true, .int 181 0, .ref 225, .none, .ref 226, .ref 227, .ref 228, .int 479 0, .int 131 0, .str (.ofString "/claim/cut.py") 480] }) ::
  (nat_lit 230, { cls := .type "function", data := .func { name := .ofString "read_map", qualname := .ofString "read_map", params := fnParams (stAt 15), body := FuncBody.stmts (fnBody (stAt 15)), scope := fnScope (stAt 15), globals := 3, closure := [], defaults := .none, kwdefaults := .none, pyModule := .str (.ofString "wasmcore.namesect") 431, code := .ref 229 } }) ::
  (nat_lit 231, { cls := .type "tuple", data := .seq #[] }) ::
  (nat_lit 233, { cls := .type "tuple", data := .seq #[.str (.ofString "part") 485, .str (.ofString "found") 486, .str (.ofString "last") 487, .str (.ofString "turn") 488, .str (.ofString "at") 489, .str (.ofString "func") 490] }) ::
  (nat_lit 234, { cls := .type "tuple", data := .seq #[] }) ::
  (nat_lit 236, { cls := .type "code", data := .fields #[.str (.ofString "read_locals") 482, .str (.ofString "read_locals") 483, .str (.ofString "/claim/cut.py") 484, .int 140 0, .int 2 0, .int 0 0, .int 0 0, .int 3 0, .ref 231, .bool true, .int 181 0, .ref 232, .none, .ref 233, .ref 234, .ref 235, .int 491 0, .int 140 0, .str (.ofString "/claim/cut.py") 492] }) ::
  (nat_lit 237, { cls := .type "function", data := .func { name := .ofString "read_locals", qualname := .ofString "read_locals", params := fnParams (stAt 16), body := FuncBody.stmts (fnBody (stAt 16)), scope := fnScope (stAt 16), globals := 3, closure := [], defaults := .none, kwdefaults := .none, pyModule := .str (.ofString "wasmcore.namesect") 431, code := .ref 236 } }) ::
  (nat_lit 238, { cls := .type "tuple", data := .seq #[] }) ::
  (nat_lit 240, { cls := .type "tuple", data := .seq #[.str (.ofString "names") 497, .str (.ofString "sort") 498, .str (.ofString "part") 499] }) ::
  (nat_lit 241, { cls := .type "tuple", data := .seq #[] }) ::
  (nat_lit 243, { cls := .type "code", data := .fields #[.str (.ofString "read_part") 494, .str (.ofString "read_part") 495, .str (.ofString "/claim/cut.py") 496, .int 150 0, .int 3 0, .int 0 0, .int 0 0, .int 3 0, .ref 238, .bool true, .int 181 0, .ref 239, .none, .ref 240, .ref 241, .ref 242, .int 500 0, .int 150 0, .str (.ofString "/claim/cut.py") 501] }) ::
  (nat_lit 244, { cls := .type "function", data := .func { name := .ofString "read_part", qualname := .ofString "read_part", params := fnParams (stAt 17), body := FuncBody.stmts (fnBody (stAt 17)), scope := fnScope (stAt 17), globals := 3, closure := [], defaults := .none, kwdefaults := .none, pyModule := .str (.ofString "wasmcore.namesect") 431, code := .ref 243 } }) ::
  (nat_lit 245, { cls := .type "tuple", data := .seq #[] }) ::
  (nat_lit 247, { cls := .type "tuple", data := .seq #[.str (.ofString "octets") 506, .str (.ofString "names") 507, .str (.ofString "cursor") 508, .str (.ofString "last") 509, .str (.ofString "at") 510, .str (.ofString "sort") 511, .str (.ofString "many") 512] }) ::
  (nat_lit 248, { cls := .type "tuple", data := .seq #[] }) ::
  (nat_lit 250, { cls := .type "code", data := .fields #[.str (.ofString "read_section") 503, .str (.ofString "read_section") 504, .str (.ofString "/claim/cut.py") 505, .int 160 0, .int 1 0, .int 0 0, .int 0 0, .int 3 0, .ref 245, .bool true, .int 181 0, .ref 246, .none, .ref 247, .ref 248, .ref 249, .int 513 0, .int 160 0, .str (.ofString "/claim/cut.py") 514] }) ::
  (nat_lit 251, { cls := .type "function", data := .func { name := .ofString "read_section", qualname := .ofString "read_section", params := fnParams (stAt 18), body := FuncBody.stmts (fnBody (stAt 18)), scope := fnScope (stAt 18), globals := 3, closure := [], defaults := .none, kwdefaults := .none, pyModule := .str (.ofString "wasmcore.namesect") 431, code := .ref 250 } }) ::
  (nat_lit 252, { cls := .type "tuple", data := .seq #[] }) ::
  (nat_lit 254, { cls := .type "tuple", data := .seq #[.str (.ofString "tape") 521] }) ::
  (nat_lit 255, { cls := .type "tuple", data := .seq #[] }) ::
  (nat_lit 257, { cls := .type "code", data := .fields #[.str (.ofString "_law_next") 518, .str (.ofString "_law_next") 519, .str (.ofString "/claim/cut.py") 520, .int 177 0, .int 1 0, .int 0 0, .int 0 0, .int 3 0, .ref 252, .bool true, .int 181 0, .ref 253, .none, .ref 254, .ref 255, .ref 256, .int 522 0, .int 177 0, .str (.ofString "/claim/cut.py") 523] }) ::
  (nat_lit 258, { cls := .type "function", data := .func { name := .ofString "_law_next", qualname := .ofString "_law_next", params := fnParams (stAt 20), body := FuncBody.stmts (fnBody (stAt 20)), scope := fnScope (stAt 20), globals := 3, closure := [], defaults := .none, kwdefaults := .none, pyModule := .str (.ofString "law_nm0124_01") 516, code := .ref 257 } }) ::
  (nat_lit 259, { cls := .type "tuple", data := .seq #[] }) ::
  (nat_lit 261, { cls := .type "tuple", data := .seq #[.str (.ofString "number") 528] }) ::
  (nat_lit 262, { cls := .type "tuple", data := .seq #[] }) ::
  (nat_lit 264, { cls := .type "code", data := .fields #[.str (.ofString "_law_number") 525, .str (.ofString "_law_number") 526, .str (.ofString "/claim/cut.py") 527, .int 179 0, .int 1 0, .int 0 0, .int 0 0, .int 3 0, .ref 259, .bool true, .int 181 0, .ref 260, .none, .ref 261, .ref 262, .ref 263, .int 529 0, .int 179 0, .str (.ofString "/claim/cut.py") 530] }) ::
  (nat_lit 265, { cls := .type "function", data := .func { name := .ofString "_law_number", qualname := .ofString "_law_number", params := fnParams (stAt 21), body := FuncBody.stmts (fnBody (stAt 21)), scope := fnScope (stAt 21), globals := 3, closure := [], defaults := .none, kwdefaults := .none, pyModule := .str (.ofString "law_nm0124_01") 516, code := .ref 264 } }) ::
  (nat_lit 266, { cls := .type "tuple", data := .seq #[] }) ::
  (nat_lit 269, { cls := .type "code", data := .fields #[.str (.ofString "_law_sign") 532, .str (.ofString "_law_sign") 533, .str (.ofString "/claim/cut.py") 534, .int 183 0, .int 1 0, .int 0 0, .int 0 0, .int 3 0, .ref 266, .bool true, .int 181 0, .ref 267, .none, .none, .none, .ref 268, .int 535 0, .int 183 0, .str (.ofString "/claim/cut.py") 536] }) ::
  (nat_lit 270, { cls := .type "function", data := .func { name := .ofString "_law_sign", qualname := .ofString "_law_sign", params := fnParams (stAt 22), body := FuncBody.stmts (fnBody (stAt 22)), scope := fnScope (stAt 22), globals := 3, closure := [], defaults := .none, kwdefaults := .none, pyModule := .str (.ofString "law_nm0124_01") 516, code := .ref 269 } }) ::
  (nat_lit 271, { cls := .type "tuple", data := .seq #[] }) ::
  (nat_lit 274, { cls := .type "code", data := .fields #[.str (.ofString "_law_told") 538, .str (.ofString "_law_told") 539, .str (.ofString "/claim/cut.py") 540, .int 189 0, .int 1 0, .int 0 0, .int 0 0, .int 3 0, .ref 271, .bool true, .int 181 0, .ref 272, .none, .none, .none, .ref 273, .int 541 0, .int 189 0, .str (.ofString "/claim/cut.py") 542] }) ::
  (nat_lit 275, { cls := .type "function", data := .func { name := .ofString "_law_told", qualname := .ofString "_law_told", params := fnParams (stAt 23), body := FuncBody.stmts (fnBody (stAt 23)), scope := fnScope (stAt 23), globals := 3, closure := [], defaults := .none, kwdefaults := .none, pyModule := .str (.ofString "law_nm0124_01") 516, code := .ref 274 } }) ::
  (nat_lit 276, { cls := .type "tuple", data := .seq #[] }) ::
  (nat_lit 278, { cls := .type "tuple", data := .seq #[.str (.ofString "tape") 547, .str (.ofString "text") 548, .str (.ofString "turn") 549, .str (.ofString "point") 550] }) ::
  (nat_lit 279, { cls := .type "tuple", data := .seq #[] }) ::
  (nat_lit 281, { cls := .type "code", data := .fields #[.str (.ofString "_law_text") 544, .str (.ofString "_law_text") 545, .str (.ofString "/claim/cut.py") 546, .int 192 0, .int 1 0, .int 0 0, .int 0 0, .int 3 0, .ref 276, .bool true, .int 181 0, .ref 277, .none, .ref 278, .ref 279, .ref 280, .int 551 0, .int 192 0, .str (.ofString "/claim/cut.py") 552] }) ::
  (nat_lit 282, { cls := .type "function", data := .func { name := .ofString "_law_text", qualname := .ofString "_law_text", params := fnParams (stAt 24), body := FuncBody.stmts (fnBody (stAt 24)), scope := fnScope (stAt 24), globals := 3, closure := [], defaults := .none, kwdefaults := .none, pyModule := .str (.ofString "law_nm0124_01") 516, code := .ref 281 } }) ::
  (nat_lit 283, { cls := .type "tuple", data := .seq #[] }) ::
  (nat_lit 285, { cls := .type "tuple", data := .seq #[.str (.ofString "tape") 557, .str (.ofString "many") 558, .str (.ofString "some") 559, .str (.ofString "index") 560, .str (.ofString "turn") 561] }) ::
  (nat_lit 286, { cls := .type "tuple", data := .seq #[] }) ::
  (nat_lit 288, { cls := .type "code", data := .fields #[.str (.ofString "_law_some") 554, .str (.ofString "_law_some") 555, .str (.ofString "/claim/cut.py") 556, .int 198 0, .int 2 0, .int 0 0, .int 0 0, .int 3 0, .ref 283, .bool true, .int 181 0, .ref 284, .none, .ref 285, .ref 286, .ref 287, .int 562 0, .int 198 0, .str (.ofString "/claim/cut.py") 563] }) ::
  (nat_lit 289, { cls := .type "function", data := .func { name := .ofString "_law_some", qualname := .ofString "_law_some", params := fnParams (stAt 25), body := FuncBody.stmts (fnBody (stAt 25)), scope := fnScope (stAt 25), globals := 3, closure := [], defaults := .none, kwdefaults := .none, pyModule := .str (.ofString "law_nm0124_01") 516, code := .ref 288 } }) ::
  (nat_lit 290, { cls := .type "tuple", data := .seq #[] }) ::
  (nat_lit 292, { cls := .type "tuple", data := .seq #[.str (.ofString "some") 568, .str (.ofString "out") 569, .str (.ofString "index") 570] }) ::
  (nat_lit 293, { cls := .type "tuple", data := .seq #[] }) ::
  (nat_lit 295, { cls := .type "code", data := .fields #[.str (.ofString "_law_map") 565, .str (.ofString "_law_map") 566, .str (.ofString "/claim/cut.py") 567, .int 204 0, .int 1 0, .int 0 0, .int 0 0, .int 3 0, .ref 290, .bool true, .int 181 0, .ref 291, .none, .ref 292, .ref 293, .ref 294, .int 571 0, .int 204 0, .str (.ofString "/claim/cut.py") 572] }) ::
  (nat_lit 296, { cls := .type "function", data := .func { name := .ofString "_law_map", qualname := .ofString "_law_map", params := fnParams (stAt 26), body := FuncBody.stmts (fnBody (stAt 26)), scope := fnScope (stAt 26), globals := 3, closure := [], defaults := .none, kwdefaults := .none, pyModule := .str (.ofString "law_nm0124_01") 516, code := .ref 295 } }) ::
  (nat_lit 297, { cls := .type "tuple", data := .seq #[] }) ::
  (nat_lit 299, { cls := .type "tuple", data := .seq #[.str (.ofString "sort") 577, .str (.ofString "octets") 578] }) ::
  (nat_lit 300, { cls := .type "tuple", data := .seq #[] }) ::
  (nat_lit 302, { cls := .type "code", data := .fields #[.str (.ofString "_law_part") 574, .str (.ofString "_law_part") 575, .str (.ofString "/claim/cut.py") 576, .int 209 0, .int 2 0, .int 0 0, .int 0 0, .int 3 0, .ref 297, .bool true, .int 181 0, .ref 298, .none, .ref 299, .ref 300, .ref 301, .int 579 0, .int 209 0, .str (.ofString "/claim/cut.py") 580] }) ::
  (nat_lit 303, { cls := .type "function", data := .func { name := .ofString "_law_part", qualname := .ofString "_law_part", params := fnParams (stAt 27), body := FuncBody.stmts (fnBody (stAt 27)), scope := fnScope (stAt 27), globals := 3, closure := [], defaults := .none, kwdefaults := .none, pyModule := .str (.ofString "law_nm0124_01") 516, code := .ref 302 } }) ::
  (nat_lit 304, { cls := .type "tuple", data := .seq #[] }) ::
  (nat_lit 306, { cls := .type "tuple", data := .seq #[.str (.ofString "title") 585, .str (.ofString "funcs") 586, .str (.ofString "rows") 587, .str (.ofString "out") 588, .str (.ofString "inner") 589, .str (.ofString "func") 590] }) ::
  (nat_lit 307, { cls := .type "tuple", data := .seq #[] }) ::
  (nat_lit 309, { cls := .type "code", data := .fields #[.str (.ofString "_law_written") 582, .str (.ofString "_law_written") 583, .str (.ofString "/claim/cut.py") 584, .int 211 0, .int 3 0, .int 0 0, .int 0 0, .int 3 0, .ref 304, .bool true, .int 181 0, .ref 305, .none, .ref 306, .ref 307, .ref 308, .int 591 0, .int 211 0, .str (.ofString "/claim/cut.py") 592] }) ::
  (nat_lit 310, { cls := .type "function", data := .func { name := .ofString "_law_written", qualname := .ofString "_law_written", params := fnParams (stAt 28), body := FuncBody.stmts (fnBody (stAt 28)), scope := fnScope (stAt 28), globals := 3, closure := [], defaults := .none, kwdefaults := .none, pyModule := .str (.ofString "law_nm0124_01") 516, code := .ref 309 } }) ::
  (nat_lit 311, { cls := .type "tuple", data := .seq #[] }) ::
  (nat_lit 313, { cls := .type "tuple", data := .seq #[.str (.ofString "octets") 597, .str (.ofString "way") 598, .str (.ofString "place") 599, .str (.ofString "value") 600, .str (.ofString "at") 601] }) ::
  (nat_lit 314, { cls := .type "tuple", data := .seq #[] }) ::
  (nat_lit 316, { cls := .type "code", data := .fields #[.str (.ofString "_law_changed") 594, .str (.ofString "_law_changed") 595, .str (.ofString "/claim/cut.py") 596, .int 221 0, .int 4 0, .int 0 0, .int 0 0, .int 3 0, .ref 311, .bool true, .int 181 0, .ref 312, .none, .ref 313, .ref 314, .ref 315, .int 602 0, .int 221 0, .str (.ofString "/claim/cut.py") 603] }) ::
  (nat_lit 317, { cls := .type "function", data := .func { name := .ofString "_law_changed", qualname := .ofString "_law_changed", params := fnParams (stAt 29), body := FuncBody.stmts (fnBody (stAt 29)), scope := fnScope (stAt 29), globals := 3, closure := [], defaults := .none, kwdefaults := .none, pyModule := .str (.ofString "law_nm0124_01") 516, code := .ref 316 } }) ::
  (nat_lit 318, { cls := .type "tuple", data := .seq #[] }) ::
  (nat_lit 320, { cls := .type "tuple", data := .seq #[.str (.ofString "state") 608, .str (.ofString "found") 609, .str (.ofString "k") 610, .str (.ofString "octet") 611] }) ::
  (nat_lit 321, { cls := .type "tuple", data := .seq #[] }) ::
  (nat_lit 323, { cls := .type "code", data := .fields #[.str (.ofString "_law_u32") 605, .str (.ofString "_law_u32") 606, .str (.ofString "/claim/cut.py") 607, .int 228 0, .int 1 0, .int 0 0, .int 0 0, .int 3 0, .ref 318, .bool true, .int 181 0, .ref 319, .none, .ref 320, .ref 321, .ref 322, .int 612 0, .int 228 0, .str (.ofString "/claim/cut.py") 613] }) ::
  (nat_lit 324, { cls := .type "function", data := .func { name := .ofString "_law_u32", qualname := .ofString "_law_u32", params := fnParams (stAt 30), body := FuncBody.stmts (fnBody (stAt 30)), scope := fnScope (stAt 30), globals := 3, closure := [], defaults := .none, kwdefaults := .none, pyModule := .str (.ofString "law_nm0124_01") 516, code := .ref 323 } }) ::
  (nat_lit 325, { cls := .type "tuple", data := .seq #[] }) ::
  (nat_lit 327, { cls := .type "tuple", data := .seq #[.str (.ofString "state") 618, .str (.ofString "many") 619, .str (.ofString "octets") 620, .str (.ofString "text") 621, .str (.ofString "at") 622, .str (.ofString "first") 623, .str (.ofString "size") 624, .str (.ofString "point") 625, .str (.ofString "octet") 626] }) ::
  (nat_lit 328, { cls := .type "tuple", data := .seq #[] }) ::
  (nat_lit 330, { cls := .type "code", data := .fields #[.str (.ofString "_law_name") 615, .str (.ofString "_law_name") 616, .str (.ofString "/claim/cut.py") 617, .int 239 0, .int 1 0, .int 0 0, .int 0 0, .int 3 0, .ref 325, .bool true, .int 181 0, .ref 326, .none, .ref 327, .ref 328, .ref 329, .int 627 0, .int 239 0, .str (.ofString "/claim/cut.py") 628] }) ::
  (nat_lit 331, { cls := .type "function", data := .func { name := .ofString "_law_name", qualname := .ofString "_law_name", params := fnParams (stAt 31), body := FuncBody.stmts (fnBody (stAt 31)), scope := fnScope (stAt 31), globals := 3, closure := [], defaults := .none, kwdefaults := .none, pyModule := .str (.ofString "law_nm0124_01") 516, code := .ref 330 } }) ::
  (nat_lit 332, { cls := .type "tuple", data := .seq #[] }) ::
  (nat_lit 334, { cls := .type "tuple", data := .seq #[.str (.ofString "state") 633, .str (.ofString "found") 634, .str (.ofString "many") 635, .str (.ofString "last") 636, .str (.ofString "turn") 637, .str (.ofString "index") 638, .str (.ofString "text") 639] }) ::
  (nat_lit 335, { cls := .type "tuple", data := .seq #[] }) ::
  (nat_lit 337, { cls := .type "code", data := .fields #[.str (.ofString "_law_names") 630, .str (.ofString "_law_names") 631, .str (.ofString "/claim/cut.py") 632, .int 256 0, .int 2 0, .int 0 0, .int 0 0, .int 3 0, .ref 332, .bool true, .int 181 0, .ref 333, .none, .ref 334, .ref 335, .ref 336, .int 640 0, .int 256 0, .str (.ofString "/claim/cut.py") 641] }) ::
  (nat_lit 338, { cls := .type "function", data := .func { name := .ofString "_law_names", qualname := .ofString "_law_names", params := fnParams (stAt 32), body := FuncBody.stmts (fnBody (stAt 32)), scope := fnScope (stAt 32), globals := 3, closure := [], defaults := .none, kwdefaults := .none, pyModule := .str (.ofString "law_nm0124_01") 516, code := .ref 337 } }) ::
  (nat_lit 339, { cls := .type "tuple", data := .seq #[] }) ::
  (nat_lit 341, { cls := .type "tuple", data := .seq #[.str (.ofString "state") 646, .str (.ofString "found") 647, .str (.ofString "many") 648, .str (.ofString "last") 649, .str (.ofString "turn") 650, .str (.ofString "func") 651] }) ::
  (nat_lit 342, { cls := .type "tuple", data := .seq #[] }) ::
  (nat_lit 344, { cls := .type "code", data := .fields #[.str (.ofString "_law_rows") 643, .str (.ofString "_law_rows") 644, .str (.ofString "/claim/cut.py") 645, .int 266 0, .int 2 0, .int 0 0, .int 0 0, .int 3 0, .ref 339, .bool true, .int 181 0, .ref 340, .none, .ref 341, .ref 342, .ref 343, .int 652 0, .int 266 0, .str (.ofString "/claim/cut.py") 653] }) ::
  (nat_lit 345, { cls := .type "function", data := .func { name := .ofString "_law_rows", qualname := .ofString "_law_rows", params := fnParams (stAt 33), body := FuncBody.stmts (fnBody (stAt 33)), scope := fnScope (stAt 33), globals := 3, closure := [], defaults := .none, kwdefaults := .none, pyModule := .str (.ofString "law_nm0124_01") 516, code := .ref 344 } }) ::
  (nat_lit 346, { cls := .type "tuple", data := .seq #[] }) ::
  (nat_lit 348, { cls := .type "tuple", data := .seq #[.str (.ofString "octets") 658, .str (.ofString "state") 659, .str (.ofString "title") 660, .str (.ofString "funcs") 661, .str (.ofString "rows") 662, .str (.ofString "last") 663, .str (.ofString "sort") 664, .str (.ofString "many") 665, .str (.ofString "right") 666] }) ::
  (nat_lit 349, { cls := .type "tuple", data := .seq #[] }) ::
  (nat_lit 351, { cls := .type "code", data := .fields #[.str (.ofString "_law_read") 655, .str (.ofString "_law_read") 656, .str (.ofString "/claim/cut.py") 657, .int 277 0, .int 1 0, .int 0 0, .int 0 0, .int 3 0, .ref 346, .bool true, .int 181 0, .ref 347, .none, .ref 348, .ref 349, .ref 350, .int 667 0, .int 277 0, .str (.ofString "/claim/cut.py") 668] }) ::
  (nat_lit 352, { cls := .type "function", data := .func { name := .ofString "_law_read", qualname := .ofString "_law_read", params := fnParams (stAt 34), body := FuncBody.stmts (fnBody (stAt 34)), scope := fnScope (stAt 34), globals := 3, closure := [], defaults := .none, kwdefaults := .none, pyModule := .str (.ofString "law_nm0124_01") 516, code := .ref 351 } }) ::
  (nat_lit 353, { cls := .type "tuple", data := .seq #[] }) ::
  (nat_lit 355, { cls := .type "tuple", data := .seq #[.str (.ofString "octets") 673, .str (.ofString "title") 674, .str (.ofString "funcs") 675, .str (.ofString "rows") 676, .str (.ofString "right") 677, .str (.ofString "told") 678, .str (.ofString "func") 679, .str (.ofString "again") 680] }) ::
  (nat_lit 356, { cls := .type "tuple", data := .seq #[] }) ::
  (nat_lit 358, { cls := .type "code", data := .fields #[.str (.ofString "_law_is_told") 670, .str (.ofString "_law_is_told") 671, .str (.ofString "/claim/cut.py") 672, .int 300 0, .int 1 0, .int 0 0, .int 0 0, .int 3 0, .ref 353, .bool true, .int 181 0, .ref 354, .none, .ref 355, .ref 356, .ref 357, .int 681 0, .int 300 0, .str (.ofString "/claim/cut.py") 682] }) ::
  (nat_lit 359, { cls := .type "function", data := .func { name := .ofString "_law_is_told", qualname := .ofString "_law_is_told", params := fnParams (stAt 35), body := FuncBody.stmts (fnBody (stAt 35)), scope := fnScope (stAt 35), globals := 3, closure := [], defaults := .none, kwdefaults := .none, pyModule := .str (.ofString "law_nm0124_01") 516, code := .ref 358 } }) ::
  (nat_lit 360, { cls := .type "tuple", data := .seq #[] }) ::
  (nat_lit 362, { cls := .type "tuple", data := .seq #[.str (.ofString "script") 687, .str (.ofString "tape") 688, .str (.ofString "changes") 689, .str (.ofString "turn") 690, .str (.ofString "way") 691, .str (.ofString "place") 692, .str (.ofString "title") 693, .str (.ofString "funcs") 694, .str (.ofString "rows") 695, .str (.ofString "func") 696, .str (.ofString "octets") 697, .str (.ofString "value") 698] }) ::
  (nat_lit 363, { cls := .type "tuple", data := .seq #[] }) ::
  (nat_lit 365, { cls := .type "code", data := .fields #[.str (.ofString "law") 684, .str (.ofString "law") 685, .str (.ofString "/claim/cut.py") 686, .int 312 0, .int 1 0, .int 0 0, .int 0 0, .int 3 0, .ref 360, .bool true, .int 181 0, .ref 361, .none, .ref 362, .ref 363, .ref 364, .int 699 0, .int 312 0, .str (.ofString "/claim/cut.py") 700] }) ::
  (nat_lit 366, { cls := .type "function", data := .func { name := .ofString "law", qualname := .ofString "law", params := fnParams (stAt 36), body := FuncBody.stmts (fnBody (stAt 36)), scope := fnScope (stAt 36), globals := 3, closure := [], defaults := .none, kwdefaults := .none, pyModule := .str (.ofString "law_nm0124_01") 516, code := .ref 365 } }) ::
  []
noncomputable def keepIx : List Nat := [0, 2, 3, 5, 7, 8, 11, 12, 13, 14, 15, 16, 17, 18, 20, 21, 22, 23, 24, 25, 26, 27, 28, 29, 30, 31, 32, 33, 34, 35, 36]
noncomputable def view : Program := PySem.W.view PySem.Challenge.pw_nm0124_01 keepIx
theorem boot1 : opening PySem.Challenge.pw_nm0124_01 = plainProg PySem.Challenge.pw_nm0124_01.main.scope.names := by kernel_rfl
theorem boot2 (s : Shared) : fenceModules? PySem.Challenge.pw_nm0124_01 s = some s := by kernel_rfl
noncomputable def KAs : List Addr := [2, 3, 15, 17, 18, 20, 21, 22, 29, 31, 32, 34, 35, 36, 37, 38, 39, 42, 49, 51, 52, 54, 55, 56, 57, 58, 61, 63, 64, 66, 67, 75, 76, 78, 79, 81, 82, 83, 85, 86, 88, 89, 90, 92, 93, 95, 96, 97, 99, 100, 102, 103, 104, 106, 107, 109, 110, 111, 113, 114, 116, 117, 118, 120, 121, 123, 124, 125, 127, 128, 130, 131, 132, 134, 135, 137, 138, 139, 141, 142, 144, 145, 146, 148, 149, 151, 152, 153, 155, 156, 158, 159, 160, 162, 163, 165, 166, 167, 169, 170, 172, 173, 174, 176, 177, 179, 180, 181, 182, 183, 184, 185, 188, 190, 191, 193, 194, 195, 196, 198, 199, 201, 202, 210, 212, 213, 215, 216, 217, 218, 219, 220, 221, 224, 226, 227, 229, 230, 231, 233, 234, 236, 237, 238, 240, 241, 243, 244, 245, 247, 248, 250, 251, 252, 254, 255, 257, 258, 259, 261, 262, 264, 265, 266, 269, 270, 271, 274, 275, 276, 278, 279, 281, 282, 283, 285, 286, 288, 289, 290, 292, 293, 295, 296, 297, 299, 300, 302, 303, 304, 306, 307, 309, 310, 311, 313, 314, 316, 317, 318, 320, 321, 323, 324, 325, 327, 328, 330, 331, 332, 334, 335, 337, 338, 339, 341, 342, 344, 345, 346, 348, 349, 351, 352, 353, 355, 356, 358, 359, 360, 362, 363, 365, 366]
theorem KAs_eq (P : Params) : KAs = (K P).map (·.1) := by kernel_rfl
noncomputable def hook : Hook := kHook K KAs KAs_eq
noncomputable def hc1 (P : Params) : List Obj := [
  { cls := .type "tuple", data := .seq #[] },
  { cls := .none, data := .fields #[] },
  { cls := .type "tuple", data := .seq #[.str (.ofString "k") 190] },
  { cls := .type "tuple", data := .seq #[] },
  { cls := .none, data := .func { name := .ofString "_wall", qualname := .ofString "_wall", params := fnParams (stAt 0), body := FuncBody.stmts (fnBody (stAt 0)), scope := fnScope (stAt 0), globals := 0, closure := [], defaults := .none, kwdefaults := .none } },
  { cls := .type "code", data := .fields #[.str (.ofString "_wall") 187, .str (.ofString "_wall") 188, .str (.ofString "/claim/cut.py") 189, .int 1 0, .int 1 0, .int 0 0, .int 0 0, .int 3 0, .ref 15, .bool true, .int 181 0, .ref 16, .none, .ref 17, .ref 18, .ref 19, .int 191 0, .int 1 0, .str (.ofString "/claim/cut.py") 192] },
  { cls := .type "function", data := .func { name := .ofString "_wall", qualname := .ofString "_wall", params := fnParams (stAt 0), body := FuncBody.stmts (fnBody (stAt 0)), scope := fnScope (stAt 0), globals := 3, closure := [], defaults := .none, kwdefaults := .none, pyModule := .str (.ofString "__main__") 164, code := .ref 20 } },
  { cls := .type "tuple", data := .seq #[.type "Exception"] },
  { cls := .type "builtin_function_or_method", data := .fields #[.builtin "type.__prepare__", .type "type"] },
  { cls := .type "dict", data := .dict #[{ hash := PyData.keyHash P (.ofString "__module__"), key := .str (.ofString "__module__") 203, val := .str (.ofString "wasmcore.faults") 194 }, { hash := PyData.keyHash P (.ofString "__qualname__"), key := .str (.ofString "__qualname__") 205, val := .str (.ofString "WasmFault") 204 }, { hash := PyData.keyHash P (.ofString "__firstlineno__"), key := .str (.ofString "__firstlineno__") 207, val := .int 5 206 }, { hash := PyData.keyHash P (.ofString "__init__"), key := .str (.ofString "__init__") 215, val := .ref 35 }, { hash := PyData.keyHash P (.ofString "__static_attributes__"), key := .str (.ofString "__static_attributes__") 217, val := .ref 36 }] 5 },
  { cls := .type "tuple", data := .seq #[] },
  { cls := .none, data := .fields #[.int 7 0, .int 4 0, .ref 34] },
  { cls := .type "code", data := .fields #[.str (.ofString "WasmFault") 198, .str (.ofString "WasmFault") 199, .str (.ofString "/claim/cut.py") 200, .int 5 0, .int 0 0, .int 0 0, .int 0 0, .int 0 0, .ref 25, .bool false, .int 181 0, .ref 26, .none, .none, .none, .none, .int 201 0, .int 5 0, .str (.ofString "/claim/cut.py") 202] },
  { cls := .type "frame", slots := #[some (.ref 27), some (.ref 3), some (.ref 24), none, some (.str (.ofString "wasmcore.faults") 194), none, some (.ref 0)] },
  { cls := .type "tuple", data := .seq #[] },
  { cls := .none, data := .fields #[] },
  { cls := .type "tuple", data := .seq #[.str (.ofString "self") 211, .str (.ofString "why") 212] },
  { cls := .type "tuple", data := .seq #[] },
  { cls := .none, data := .func { name := .ofString "__init__", qualname := .ofString "WasmFault.__init__", params := fnParams (stIn 2 0), body := FuncBody.stmts (fnBody (stIn 2 0)), scope := fnScope (stIn 2 0), globals := 0, closure := [], defaults := .none, kwdefaults := .none } },
  { cls := .type "code", data := .fields #[.str (.ofString "__init__") 208, .str (.ofString "WasmFault.__init__") 209, .str (.ofString "/claim/cut.py") 210, .int 7 0, .int 2 0, .int 0 0, .int 0 0, .int 3 0, .ref 29, .bool true, .int 181 0, .ref 30, .none, .ref 31, .ref 32, .ref 33, .int 213 0, .int 7 0, .str (.ofString "/claim/cut.py") 214] },
  { cls := .type "function", data := .func { name := .ofString "__init__", qualname := .ofString "WasmFault.__init__", params := fnParams (stIn 2 0), body := FuncBody.stmts (fnBody (stIn 2 0)), scope := fnScope (stIn 2 0), globals := 3, closure := [], defaults := .none, kwdefaults := .none, pyModule := .str (.ofString "wasmcore.faults") 194, code := .ref 34 } },
  { cls := .type "tuple", data := .seq #[.str (.ofString "why") 216] },
  { cls := .type "dict", data := .dict #[{ hash := PyData.keyHash P (.ofString "__module__"), key := .str (.ofString "__module__") 203, val := .str (.ofString "wasmcore.faults") 194 }, { hash := PyData.keyHash P (.ofString "__firstlineno__"), key := .str (.ofString "__firstlineno__") 207, val := .int 5 206 }, { hash := PyData.keyHash P (.ofString "__init__"), key := .str (.ofString "__init__") 215, val := .ref 35 }, { hash := PyData.keyHash P (.ofString "__static_attributes__"), key := .str (.ofString "__static_attributes__") 217, val := .ref 36 }, { hash := PyData.keyHash P (.ofString "__weakref__"), key := .str (.ofString "__weakref__") 219, val := .ref 39 }, { hash := PyData.keyHash P (.ofString "__doc__"), key := .str (.ofString "__doc__") 220, val := .none }] 3 },
  { cls := .type "type", data := Data.cls { name := .ofString "WasmFault", bases := [.type "Exception"], mro := [.ref 38, .type "Exception", .type "BaseException", .type "object"], ns := 37, qualname := .ofString "WasmFault", subclasses := [.ref 58] }, slots := #[some (.ref 22), none, some (.str (.ofString "WasmFault") 196), some (.str (.ofString "WasmFault") 204), some (.builtin "Exception.__new__"), some (.bool true)] },
  { cls := .type "getset_descriptor", data := .fields #[.str (.ofString "__weakref__") 218, .ref 38, .builtin "ExceptionGroup.__weakref__", .none] },
  { cls := .type "super", data := .fields #[.ref 38, .ref 38, .ref 38] },
  { cls := .type "builtin_function_or_method", data := .fields #[.builtin "object.__init_subclass__", .ref 38] },
  { cls := .type "tuple", data := .seq #[.ref 38] },
  { cls := .type "builtin_function_or_method", data := .fields #[.builtin "type.__prepare__", .type "type"] },
  { cls := .type "dict", data := .dict #[{ hash := PyData.keyHash P (.ofString "__module__"), key := .str (.ofString "__module__") 232, val := .str (.ofString "wasmcore.faults") 194 }, { hash := PyData.keyHash P (.ofString "__qualname__"), key := .str (.ofString "__qualname__") 234, val := .str (.ofString "Malformed") 233 }, { hash := PyData.keyHash P (.ofString "__firstlineno__"), key := .str (.ofString "__firstlineno__") 236, val := .int 10 235 }, { hash := PyData.keyHash P (.ofString "__init__"), key := .str (.ofString "__init__") 245, val := .ref 55 }, { hash := PyData.keyHash P (.ofString "__static_attributes__"), key := .str (.ofString "__static_attributes__") 247, val := .ref 56 }] 5 },
  { cls := .type "tuple", data := .seq #[] },
  { cls := .none, data := .fields #[.int 12 0, .int 4 0, .ref 54] },
  { cls := .type "code", data := .fields #[.str (.ofString "Malformed") 227, .str (.ofString "Malformed") 228, .str (.ofString "/claim/cut.py") 229, .int 10 0, .int 0 0, .int 0 0, .int 0 0, .int 0 0, .ref 45, .bool false, .int 181 0, .ref 46, .none, .none, .none, .none, .int 230 0, .int 10 0, .str (.ofString "/claim/cut.py") 231] },
  { cls := .type "frame", slots := #[some (.ref 47), some (.ref 3), some (.ref 44), none, some (.str (.ofString "wasmcore.faults") 194), none, some (.ref 0)] },
  { cls := .type "tuple", data := .seq #[] },
  { cls := .none, data := .fields #[] },
  { cls := .type "tuple", data := .seq #[.str (.ofString "self") 240, .str (.ofString "why") 241, .str (.ofString "at") 242] },
  { cls := .type "tuple", data := .seq #[] },
  { cls := .none, data := .func { name := .ofString "__init__", qualname := .ofString "Malformed.__init__", params := fnParams (stIn 3 0), body := FuncBody.stmts (fnBody (stIn 3 0)), scope := fnScope (stIn 3 0), globals := 0, closure := [], defaults := .none, kwdefaults := .none } },
  { cls := .type "code", data := .fields #[.str (.ofString "__init__") 237, .str (.ofString "Malformed.__init__") 238, .str (.ofString "/claim/cut.py") 239, .int 12 0, .int 3 0, .int 0 0, .int 0 0, .int 3 0, .ref 49, .bool true, .int 181 0, .ref 50, .none, .ref 51, .ref 52, .ref 53, .int 243 0, .int 12 0, .str (.ofString "/claim/cut.py") 244] },
  { cls := .type "function", data := .func { name := .ofString "__init__", qualname := .ofString "Malformed.__init__", params := fnParams (stIn 3 0), body := FuncBody.stmts (fnBody (stIn 3 0)), scope := fnScope (stIn 3 0), globals := 3, closure := [], defaults := .none, kwdefaults := .none, pyModule := .str (.ofString "wasmcore.faults") 194, code := .ref 54 } },
  { cls := .type "tuple", data := .seq #[.str (.ofString "at") 246] },
  { cls := .type "dict", data := .dict #[{ hash := PyData.keyHash P (.ofString "__module__"), key := .str (.ofString "__module__") 232, val := .str (.ofString "wasmcore.faults") 194 }, { hash := PyData.keyHash P (.ofString "__firstlineno__"), key := .str (.ofString "__firstlineno__") 236, val := .int 10 235 }, { hash := PyData.keyHash P (.ofString "__init__"), key := .str (.ofString "__init__") 245, val := .ref 55 }, { hash := PyData.keyHash P (.ofString "__static_attributes__"), key := .str (.ofString "__static_attributes__") 247, val := .ref 56 }, { hash := PyData.keyHash P (.ofString "__doc__"), key := .str (.ofString "__doc__") 248, val := .none }] 2 },
  { cls := .type "type", data := Data.cls { name := .ofString "Malformed", bases := [.ref 38], mro := [.ref 58, .ref 38, .type "Exception", .type "BaseException", .type "object"], ns := 57, qualname := .ofString "Malformed" }, slots := #[some (.ref 42), none, some (.str (.ofString "Malformed") 225), some (.str (.ofString "Malformed") 233), some (.builtin "Exception.__new__"), some (.bool true)] },
  { cls := .type "super", data := .fields #[.ref 58, .ref 58, .ref 58] },
  { cls := .type "builtin_function_or_method", data := .fields #[.builtin "object.__init_subclass__", .ref 58] },
  { cls := .type "tuple", data := .seq #[] },
  { cls := .none, data := .fields #[] },
  { cls := .type "tuple", data := .seq #[.str (.ofString "part") 256] },
  { cls := .type "tuple", data := .seq #[] },
  { cls := .none, data := .func { name := .ofString "want_just", qualname := .ofString "want_just", params := fnParams (stAt 5), body := FuncBody.stmts (fnBody (stAt 5)), scope := fnScope (stAt 5), globals := 0, closure := [], defaults := .none, kwdefaults := .none } },
  { cls := .type "code", data := .fields #[.str (.ofString "want_just") 253, .str (.ofString "want_just") 254, .str (.ofString "/claim/cut.py") 255, .int 16 0, .int 1 0, .int 0 0, .int 0 0, .int 3 0, .ref 61, .bool true, .int 181 0, .ref 62, .none, .ref 63, .ref 64, .ref 65, .int 257 0, .int 16 0, .str (.ofString "/claim/cut.py") 258] },
  { cls := .type "function", data := .func { name := .ofString "want_just", qualname := .ofString "want_just", params := fnParams (stAt 5), body := FuncBody.stmts (fnBody (stAt 5)), scope := fnScope (stAt 5), globals := 3, closure := [], defaults := .none, kwdefaults := .none, pyModule := .str (.ofString "wasmcore.binsections") 251, code := .ref 66 } }]
noncomputable def hc2 (P : Params) : List Obj := [
  { cls := .type "tuple", data := .seq #[] },
  { cls := .type "builtin_function_or_method", data := .fields #[.builtin "type.__prepare__", .type "type"] },
  { cls := .type "dict", data := .dict #[{ hash := PyData.keyHash P (.ofString "__module__"), key := .str (.ofString "__module__") 269, val := .str (.ofString "wasmcore.octets") 260 }, { hash := PyData.keyHash P (.ofString "__qualname__"), key := .str (.ofString "__qualname__") 271, val := .str (.ofString "Cursor") 270 }, { hash := PyData.keyHash P (.ofString "__firstlineno__"), key := .str (.ofString "__firstlineno__") 273, val := .int 20 272 }, { hash := PyData.keyHash P (.ofString "__init__"), key := .str (.ofString "__init__") 284, val := .ref 82 }, { hash := PyData.keyHash P (.ofString "left"), key := .str (.ofString "left") 291, val := .ref 89 }, { hash := PyData.keyHash P (.ofString "is_done"), key := .str (.ofString "is_done") 298, val := .ref 96 }, { hash := PyData.keyHash P (.ofString "peek"), key := .str (.ofString "peek") 305, val := .ref 103 }, { hash := PyData.keyHash P (.ofString "octet"), key := .str (.ofString "octet") 313, val := .ref 110 }, { hash := PyData.keyHash P (.ofString "take"), key := .str (.ofString "take") 322, val := .ref 117 }, { hash := PyData.keyHash P (.ofString "part"), key := .str (.ofString "part") 331, val := .ref 124 }, { hash := PyData.keyHash P (.ofString "unsigned"), key := .str (.ofString "unsigned") 344, val := .ref 131 }, { hash := PyData.keyHash P (.ofString "signed"), key := .str (.ofString "signed") 352, val := .ref 138 }, { hash := PyData.keyHash P (.ofString "u32"), key := .str (.ofString "u32") 359, val := .ref 145 }, { hash := PyData.keyHash P (.ofString "s7"), key := .str (.ofString "s7") 366, val := .ref 152 }, { hash := PyData.keyHash P (.ofString "s32"), key := .str (.ofString "s32") 373, val := .ref 159 }, { hash := PyData.keyHash P (.ofString "s33"), key := .str (.ofString "s33") 380, val := .ref 166 }, { hash := PyData.keyHash P (.ofString "s64"), key := .str (.ofString "s64") 387, val := .ref 173 }, { hash := PyData.keyHash P (.ofString "name"), key := .str (.ofString "name") 396, val := .ref 180 }, { hash := PyData.keyHash P (.ofString "__static_attributes__"), key := .str (.ofString "__static_attributes__") 400, val := .ref 181 }] 19 },
  { cls := .type "tuple", data := .seq #[] },
  { cls := .none, data := .fields #[.int 22 0, .int 4 0, .ref 81, .int 27 0, .int 4 0, .ref 88, .int 30 0, .int 4 0, .ref 95, .int 33 0, .int 4 0, .ref 102, .int 38 0, .int 4 0, .ref 109, .int 43 0, .int 4 0, .ref 116, .int 50 0, .int 4 0, .ref 123, .int 57 0, .int 4 0, .ref 130, .int 71 0, .int 4 0, .ref 137, .int 74 0, .int 4 0, .ref 144, .int 77 0, .int 4 0, .ref 151, .int 80 0, .int 4 0, .ref 158, .int 83 0, .int 4 0, .ref 165, .int 86 0, .int 4 0, .ref 172, .int 89 0, .int 4 0, .ref 179] },
  { cls := .type "code", data := .fields #[.str (.ofString "Cursor") 264, .str (.ofString "Cursor") 265, .str (.ofString "/claim/cut.py") 266, .int 20 0, .int 0 0, .int 0 0, .int 0 0, .int 0 0, .ref 71, .bool false, .int 181 0, .ref 72, .none, .none, .none, .none, .int 267 0, .int 20 0, .str (.ofString "/claim/cut.py") 268] },
  { cls := .type "frame", slots := #[some (.ref 73), some (.ref 3), some (.ref 70), none, some (.str (.ofString "wasmcore.octets") 260), none, some (.ref 0)] },
  { cls := .type "tuple", data := .seq #[.int 0 274, .none] },
  { cls := .type "tuple", data := .seq #[] },
  { cls := .none, data := .fields #[] },
  { cls := .type "tuple", data := .seq #[.str (.ofString "self") 278, .str (.ofString "octets") 279, .str (.ofString "at") 280, .str (.ofString "end") 281] },
  { cls := .type "tuple", data := .seq #[] },
  { cls := .none, data := .func { name := .ofString "__init__", qualname := .ofString "Cursor.__init__", params := fnParams (stIn 7 0), body := FuncBody.stmts (fnBody (stIn 7 0)), scope := fnScope (stIn 7 0), globals := 0, closure := [], defaults := .none, kwdefaults := .none } },
  { cls := .type "code", data := .fields #[.str (.ofString "__init__") 275, .str (.ofString "Cursor.__init__") 276, .str (.ofString "/claim/cut.py") 277, .int 22 0, .int 4 0, .int 0 0, .int 0 0, .int 3 0, .ref 76, .bool true, .int 181 0, .ref 77, .none, .ref 78, .ref 79, .ref 80, .int 282 0, .int 22 0, .str (.ofString "/claim/cut.py") 283] },
  { cls := .type "function", data := .func { name := .ofString "__init__", qualname := .ofString "Cursor.__init__", params := fnParams (stIn 7 0), body := FuncBody.stmts (fnBody (stIn 7 0)), scope := fnScope (stIn 7 0), globals := 3, closure := [], defaults := .ref 75, kwdefaults := .none, pyModule := .str (.ofString "wasmcore.octets") 260, code := .ref 81 } },
  { cls := .type "tuple", data := .seq #[] },
  { cls := .none, data := .fields #[] },
  { cls := .type "tuple", data := .seq #[.str (.ofString "self") 288] },
  { cls := .type "tuple", data := .seq #[] },
  { cls := .none, data := .func { name := .ofString "left", qualname := .ofString "Cursor.left", params := fnParams (stIn 7 1), body := FuncBody.stmts (fnBody (stIn 7 1)), scope := fnScope (stIn 7 1), globals := 0, closure := [], defaults := .none, kwdefaults := .none } },
  { cls := .type "code", data := .fields #[.str (.ofString "left") 285, .str (.ofString "Cursor.left") 286, .str (.ofString "/claim/cut.py") 287, .int 27 0, .int 1 0, .int 0 0, .int 0 0, .int 3 0, .ref 83, .bool true, .int 181 0, .ref 84, .none, .ref 85, .ref 86, .ref 87, .int 289 0, .int 27 0, .str (.ofString "/claim/cut.py") 290] },
  { cls := .type "function", data := .func { name := .ofString "left", qualname := .ofString "Cursor.left", params := fnParams (stIn 7 1), body := FuncBody.stmts (fnBody (stIn 7 1)), scope := fnScope (stIn 7 1), globals := 3, closure := [], defaults := .none, kwdefaults := .none, pyModule := .str (.ofString "wasmcore.octets") 260, code := .ref 88 } },
  { cls := .type "tuple", data := .seq #[] },
  { cls := .none, data := .fields #[] },
  { cls := .type "tuple", data := .seq #[.str (.ofString "self") 295] },
  { cls := .type "tuple", data := .seq #[] },
  { cls := .none, data := .func { name := .ofString "is_done", qualname := .ofString "Cursor.is_done", params := fnParams (stIn 7 2), body := FuncBody.stmts (fnBody (stIn 7 2)), scope := fnScope (stIn 7 2), globals := 0, closure := [], defaults := .none, kwdefaults := .none } },
  { cls := .type "code", data := .fields #[.str (.ofString "is_done") 292, .str (.ofString "Cursor.is_done") 293, .str (.ofString "/claim/cut.py") 294, .int 30 0, .int 1 0, .int 0 0, .int 0 0, .int 3 0, .ref 90, .bool true, .int 181 0, .ref 91, .none, .ref 92, .ref 93, .ref 94, .int 296 0, .int 30 0, .str (.ofString "/claim/cut.py") 297] },
  { cls := .type "function", data := .func { name := .ofString "is_done", qualname := .ofString "Cursor.is_done", params := fnParams (stIn 7 2), body := FuncBody.stmts (fnBody (stIn 7 2)), scope := fnScope (stIn 7 2), globals := 3, closure := [], defaults := .none, kwdefaults := .none, pyModule := .str (.ofString "wasmcore.octets") 260, code := .ref 95 } },
  { cls := .type "tuple", data := .seq #[] },
  { cls := .none, data := .fields #[] },
  { cls := .type "tuple", data := .seq #[.str (.ofString "self") 302] },
  { cls := .type "tuple", data := .seq #[] },
  { cls := .none, data := .func { name := .ofString "peek", qualname := .ofString "Cursor.peek", params := fnParams (stIn 7 3), body := FuncBody.stmts (fnBody (stIn 7 3)), scope := fnScope (stIn 7 3), globals := 0, closure := [], defaults := .none, kwdefaults := .none } },
  { cls := .type "code", data := .fields #[.str (.ofString "peek") 299, .str (.ofString "Cursor.peek") 300, .str (.ofString "/claim/cut.py") 301, .int 33 0, .int 1 0, .int 0 0, .int 0 0, .int 3 0, .ref 97, .bool true, .int 181 0, .ref 98, .none, .ref 99, .ref 100, .ref 101, .int 303 0, .int 33 0, .str (.ofString "/claim/cut.py") 304] },
  { cls := .type "function", data := .func { name := .ofString "peek", qualname := .ofString "Cursor.peek", params := fnParams (stIn 7 3), body := FuncBody.stmts (fnBody (stIn 7 3)), scope := fnScope (stIn 7 3), globals := 3, closure := [], defaults := .none, kwdefaults := .none, pyModule := .str (.ofString "wasmcore.octets") 260, code := .ref 102 } },
  { cls := .type "tuple", data := .seq #[] },
  { cls := .none, data := .fields #[] },
  { cls := .type "tuple", data := .seq #[.str (.ofString "self") 309, .str (.ofString "found") 310] },
  { cls := .type "tuple", data := .seq #[] },
  { cls := .none, data := .func { name := .ofString "octet", qualname := .ofString "Cursor.octet", params := fnParams (stIn 7 4), body := FuncBody.stmts (fnBody (stIn 7 4)), scope := fnScope (stIn 7 4), globals := 0, closure := [], defaults := .none, kwdefaults := .none } },
  { cls := .type "code", data := .fields #[.str (.ofString "octet") 306, .str (.ofString "Cursor.octet") 307, .str (.ofString "/claim/cut.py") 308, .int 38 0, .int 1 0, .int 0 0, .int 0 0, .int 3 0, .ref 104, .bool true, .int 181 0, .ref 105, .none, .ref 106, .ref 107, .ref 108, .int 311 0, .int 38 0, .str (.ofString "/claim/cut.py") 312] },
  { cls := .type "function", data := .func { name := .ofString "octet", qualname := .ofString "Cursor.octet", params := fnParams (stIn 7 4), body := FuncBody.stmts (fnBody (stIn 7 4)), scope := fnScope (stIn 7 4), globals := 3, closure := [], defaults := .none, kwdefaults := .none, pyModule := .str (.ofString "wasmcore.octets") 260, code := .ref 109 } },
  { cls := .type "tuple", data := .seq #[] },
  { cls := .none, data := .fields #[] },
  { cls := .type "tuple", data := .seq #[.str (.ofString "self") 317, .str (.ofString "many") 318, .str (.ofString "found") 319] },
  { cls := .type "tuple", data := .seq #[] },
  { cls := .none, data := .func { name := .ofString "take", qualname := .ofString "Cursor.take", params := fnParams (stIn 7 5), body := FuncBody.stmts (fnBody (stIn 7 5)), scope := fnScope (stIn 7 5), globals := 0, closure := [], defaults := .none, kwdefaults := .none } },
  { cls := .type "code", data := .fields #[.str (.ofString "take") 314, .str (.ofString "Cursor.take") 315, .str (.ofString "/claim/cut.py") 316, .int 43 0, .int 2 0, .int 0 0, .int 0 0, .int 3 0, .ref 111, .bool true, .int 181 0, .ref 112, .none, .ref 113, .ref 114, .ref 115, .int 320 0, .int 43 0, .str (.ofString "/claim/cut.py") 321] },
  { cls := .type "function", data := .func { name := .ofString "take", qualname := .ofString "Cursor.take", params := fnParams (stIn 7 5), body := FuncBody.stmts (fnBody (stIn 7 5)), scope := fnScope (stIn 7 5), globals := 3, closure := [], defaults := .none, kwdefaults := .none, pyModule := .str (.ofString "wasmcore.octets") 260, code := .ref 116 } },
  { cls := .type "tuple", data := .seq #[] },
  { cls := .none, data := .fields #[] },
  { cls := .type "tuple", data := .seq #[.str (.ofString "self") 326, .str (.ofString "many") 327, .str (.ofString "found") 328] },
  { cls := .type "tuple", data := .seq #[] },
  { cls := .none, data := .func { name := .ofString "part", qualname := .ofString "Cursor.part", params := fnParams (stIn 7 6), body := FuncBody.stmts (fnBody (stIn 7 6)), scope := fnScope (stIn 7 6), globals := 0, closure := [], defaults := .none, kwdefaults := .none } },
  { cls := .type "code", data := .fields #[.str (.ofString "part") 323, .str (.ofString "Cursor.part") 324, .str (.ofString "/claim/cut.py") 325, .int 50 0, .int 2 0, .int 0 0, .int 0 0, .int 3 0, .ref 118, .bool true, .int 181 0, .ref 119, .none, .ref 120, .ref 121, .ref 122, .int 329 0, .int 50 0, .str (.ofString "/claim/cut.py") 330] },
  { cls := .type "function", data := .func { name := .ofString "part", qualname := .ofString "Cursor.part", params := fnParams (stIn 7 6), body := FuncBody.stmts (fnBody (stIn 7 6)), scope := fnScope (stIn 7 6), globals := 3, closure := [], defaults := .none, kwdefaults := .none, pyModule := .str (.ofString "wasmcore.octets") 260, code := .ref 123 } },
  { cls := .type "tuple", data := .seq #[] },
  { cls := .none, data := .fields #[] },
  { cls := .type "tuple", data := .seq #[.str (.ofString "self") 335, .str (.ofString "bits") 336, .str (.ofString "found") 337, .str (.ofString "shift") 338, .str (.ofString "begin") 339, .str (.ofString "octet") 340, .str (.ofString "left") 341] },
  { cls := .type "tuple", data := .seq #[] },
  { cls := .none, data := .func { name := .ofString "unsigned", qualname := .ofString "Cursor.unsigned", params := fnParams (stIn 7 7), body := FuncBody.stmts (fnBody (stIn 7 7)), scope := fnScope (stIn 7 7), globals := 0, closure := [], defaults := .none, kwdefaults := .none } },
  { cls := .type "code", data := .fields #[.str (.ofString "unsigned") 332, .str (.ofString "Cursor.unsigned") 333, .str (.ofString "/claim/cut.py") 334, .int 57 0, .int 2 0, .int 0 0, .int 0 0, .int 3 0, .ref 125, .bool true, .int 181 0, .ref 126, .none, .ref 127, .ref 128, .ref 129, .int 342 0, .int 57 0, .str (.ofString "/claim/cut.py") 343] },
  { cls := .type "function", data := .func { name := .ofString "unsigned", qualname := .ofString "Cursor.unsigned", params := fnParams (stIn 7 7), body := FuncBody.stmts (fnBody (stIn 7 7)), scope := fnScope (stIn 7 7), globals := 3, closure := [], defaults := .none, kwdefaults := .none, pyModule := .str (.ofString "wasmcore.octets") 260, code := .ref 130 } },
  { cls := .type "tuple", data := .seq #[] },
  { cls := .none, data := .fields #[] },
  { cls := .type "tuple", data := .seq #[.str (.ofString "self") 348, .str (.ofString "bits") 349] },
  { cls := .type "tuple", data := .seq #[] },
  { cls := .none, data := .func { name := .ofString "signed", qualname := .ofString "Cursor.signed", params := fnParams (stIn 7 8), body := FuncBody.stmts (fnBody (stIn 7 8)), scope := fnScope (stIn 7 8), globals := 0, closure := [], defaults := .none, kwdefaults := .none } },
  { cls := .type "code", data := .fields #[.str (.ofString "signed") 345, .str (.ofString "Cursor.signed") 346, .str (.ofString "/claim/cut.py") 347, .int 71 0, .int 2 0, .int 0 0, .int 0 0, .int 3 0, .ref 132, .bool true, .int 181 0, .ref 133, .none, .ref 134, .ref 135, .ref 136, .int 350 0, .int 71 0, .str (.ofString "/claim/cut.py") 351] },
  { cls := .type "function", data := .func { name := .ofString "signed", qualname := .ofString "Cursor.signed", params := fnParams (stIn 7 8), body := FuncBody.stmts (fnBody (stIn 7 8)), scope := fnScope (stIn 7 8), globals := 3, closure := [], defaults := .none, kwdefaults := .none, pyModule := .str (.ofString "wasmcore.octets") 260, code := .ref 137 } },
  { cls := .type "tuple", data := .seq #[] },
  { cls := .none, data := .fields #[] },
  { cls := .type "tuple", data := .seq #[.str (.ofString "self") 356] },
  { cls := .type "tuple", data := .seq #[] },
  { cls := .none, data := .func { name := .ofString "u32", qualname := .ofString "Cursor.u32", params := fnParams (stIn 7 9), body := FuncBody.stmts (fnBody (stIn 7 9)), scope := fnScope (stIn 7 9), globals := 0, closure := [], defaults := .none, kwdefaults := .none } },
  { cls := .type "code", data := .fields #[.str (.ofString "u32") 353, .str (.ofString "Cursor.u32") 354, .str (.ofString "/claim/cut.py") 355, .int 74 0, .int 1 0, .int 0 0, .int 0 0, .int 3 0, .ref 139, .bool true, .int 181 0, .ref 140, .none, .ref 141, .ref 142, .ref 143, .int 357 0, .int 74 0, .str (.ofString "/claim/cut.py") 358] },
  { cls := .type "function", data := .func { name := .ofString "u32", qualname := .ofString "Cursor.u32", params := fnParams (stIn 7 9), body := FuncBody.stmts (fnBody (stIn 7 9)), scope := fnScope (stIn 7 9), globals := 3, closure := [], defaults := .none, kwdefaults := .none, pyModule := .str (.ofString "wasmcore.octets") 260, code := .ref 144 } },
  { cls := .type "tuple", data := .seq #[] },
  { cls := .none, data := .fields #[] },
  { cls := .type "tuple", data := .seq #[.str (.ofString "self") 363] },
  { cls := .type "tuple", data := .seq #[] },
  { cls := .none, data := .func { name := .ofString "s7", qualname := .ofString "Cursor.s7", params := fnParams (stIn 7 10), body := FuncBody.stmts (fnBody (stIn 7 10)), scope := fnScope (stIn 7 10), globals := 0, closure := [], defaults := .none, kwdefaults := .none } },
  { cls := .type "code", data := .fields #[.str (.ofString "s7") 360, .str (.ofString "Cursor.s7") 361, .str (.ofString "/claim/cut.py") 362, .int 77 0, .int 1 0, .int 0 0, .int 0 0, .int 3 0, .ref 146, .bool true, .int 181 0, .ref 147, .none, .ref 148, .ref 149, .ref 150, .int 364 0, .int 77 0, .str (.ofString "/claim/cut.py") 365] },
  { cls := .type "function", data := .func { name := .ofString "s7", qualname := .ofString "Cursor.s7", params := fnParams (stIn 7 10), body := FuncBody.stmts (fnBody (stIn 7 10)), scope := fnScope (stIn 7 10), globals := 3, closure := [], defaults := .none, kwdefaults := .none, pyModule := .str (.ofString "wasmcore.octets") 260, code := .ref 151 } },
  { cls := .type "tuple", data := .seq #[] },
  { cls := .none, data := .fields #[] },
  { cls := .type "tuple", data := .seq #[.str (.ofString "self") 370] },
  { cls := .type "tuple", data := .seq #[] },
  { cls := .none, data := .func { name := .ofString "s32", qualname := .ofString "Cursor.s32", params := fnParams (stIn 7 11), body := FuncBody.stmts (fnBody (stIn 7 11)), scope := fnScope (stIn 7 11), globals := 0, closure := [], defaults := .none, kwdefaults := .none } },
  { cls := .type "code", data := .fields #[.str (.ofString "s32") 367, .str (.ofString "Cursor.s32") 368, .str (.ofString "/claim/cut.py") 369, .int 80 0, .int 1 0, .int 0 0, .int 0 0, .int 3 0, .ref 153, .bool true, .int 181 0, .ref 154, .none, .ref 155, .ref 156, .ref 157, .int 371 0, .int 80 0, .str (.ofString "/claim/cut.py") 372] },
  { cls := .type "function", data := .func { name := .ofString "s32", qualname := .ofString "Cursor.s32", params := fnParams (stIn 7 11), body := FuncBody.stmts (fnBody (stIn 7 11)), scope := fnScope (stIn 7 11), globals := 3, closure := [], defaults := .none, kwdefaults := .none, pyModule := .str (.ofString "wasmcore.octets") 260, code := .ref 158 } },
  { cls := .type "tuple", data := .seq #[] },
  { cls := .none, data := .fields #[] },
  { cls := .type "tuple", data := .seq #[.str (.ofString "self") 377] },
  { cls := .type "tuple", data := .seq #[] },
  { cls := .none, data := .func { name := .ofString "s33", qualname := .ofString "Cursor.s33", params := fnParams (stIn 7 12), body := FuncBody.stmts (fnBody (stIn 7 12)), scope := fnScope (stIn 7 12), globals := 0, closure := [], defaults := .none, kwdefaults := .none } },
  { cls := .type "code", data := .fields #[.str (.ofString "s33") 374, .str (.ofString "Cursor.s33") 375, .str (.ofString "/claim/cut.py") 376, .int 83 0, .int 1 0, .int 0 0, .int 0 0, .int 3 0, .ref 160, .bool true, .int 181 0, .ref 161, .none, .ref 162, .ref 163, .ref 164, .int 378 0, .int 83 0, .str (.ofString "/claim/cut.py") 379] },
  { cls := .type "function", data := .func { name := .ofString "s33", qualname := .ofString "Cursor.s33", params := fnParams (stIn 7 12), body := FuncBody.stmts (fnBody (stIn 7 12)), scope := fnScope (stIn 7 12), globals := 3, closure := [], defaults := .none, kwdefaults := .none, pyModule := .str (.ofString "wasmcore.octets") 260, code := .ref 165 } },
  { cls := .type "tuple", data := .seq #[] },
  { cls := .none, data := .fields #[] },
  { cls := .type "tuple", data := .seq #[.str (.ofString "self") 384] },
  { cls := .type "tuple", data := .seq #[] },
  { cls := .none, data := .func { name := .ofString "s64", qualname := .ofString "Cursor.s64", params := fnParams (stIn 7 13), body := FuncBody.stmts (fnBody (stIn 7 13)), scope := fnScope (stIn 7 13), globals := 0, closure := [], defaults := .none, kwdefaults := .none } },
  { cls := .type "code", data := .fields #[.str (.ofString "s64") 381, .str (.ofString "Cursor.s64") 382, .str (.ofString "/claim/cut.py") 383, .int 86 0, .int 1 0, .int 0 0, .int 0 0, .int 3 0, .ref 167, .bool true, .int 181 0, .ref 168, .none, .ref 169, .ref 170, .ref 171, .int 385 0, .int 86 0, .str (.ofString "/claim/cut.py") 386] },
  { cls := .type "function", data := .func { name := .ofString "s64", qualname := .ofString "Cursor.s64", params := fnParams (stIn 7 13), body := FuncBody.stmts (fnBody (stIn 7 13)), scope := fnScope (stIn 7 13), globals := 3, closure := [], defaults := .none, kwdefaults := .none, pyModule := .str (.ofString "wasmcore.octets") 260, code := .ref 172 } },
  { cls := .type "tuple", data := .seq #[] },
  { cls := .none, data := .fields #[] },
  { cls := .type "tuple", data := .seq #[.str (.ofString "self") 391, .str (.ofString "many") 392, .str (.ofString "begin") 393] },
  { cls := .type "tuple", data := .seq #[] },
  { cls := .none, data := .func { name := .ofString "name", qualname := .ofString "Cursor.name", params := fnParams (stIn 7 14), body := FuncBody.stmts (fnBody (stIn 7 14)), scope := fnScope (stIn 7 14), globals := 0, closure := [], defaults := .none, kwdefaults := .none } },
  { cls := .type "code", data := .fields #[.str (.ofString "name") 388, .str (.ofString "Cursor.name") 389, .str (.ofString "/claim/cut.py") 390, .int 89 0, .int 1 0, .int 0 0, .int 0 0, .int 3 0, .ref 174, .bool true, .int 181 0, .ref 175, .none, .ref 176, .ref 177, .ref 178, .int 394 0, .int 89 0, .str (.ofString "/claim/cut.py") 395] },
  { cls := .type "function", data := .func { name := .ofString "name", qualname := .ofString "Cursor.name", params := fnParams (stIn 7 14), body := FuncBody.stmts (fnBody (stIn 7 14)), scope := fnScope (stIn 7 14), globals := 3, closure := [], defaults := .none, kwdefaults := .none, pyModule := .str (.ofString "wasmcore.octets") 260, code := .ref 179 } },
  { cls := .type "tuple", data := .seq #[.str (.ofString "at") 397, .str (.ofString "end") 398, .str (.ofString "octets") 399] },
  { cls := .type "dict", data := .dict #[{ hash := PyData.keyHash P (.ofString "__module__"), key := .str (.ofString "__module__") 269, val := .str (.ofString "wasmcore.octets") 260 }, { hash := PyData.keyHash P (.ofString "__firstlineno__"), key := .str (.ofString "__firstlineno__") 273, val := .int 20 272 }, { hash := PyData.keyHash P (.ofString "__init__"), key := .str (.ofString "__init__") 284, val := .ref 82 }, { hash := PyData.keyHash P (.ofString "left"), key := .str (.ofString "left") 291, val := .ref 89 }, { hash := PyData.keyHash P (.ofString "is_done"), key := .str (.ofString "is_done") 298, val := .ref 96 }, { hash := PyData.keyHash P (.ofString "peek"), key := .str (.ofString "peek") 305, val := .ref 103 }, { hash := PyData.keyHash P (.ofString "octet"), key := .str (.ofString "octet") 313, val := .ref 110 }, { hash := PyData.keyHash P (.ofString "take"), key := .str (.ofString "take") 322, val := .ref 117 }, { hash := PyData.keyHash P (.ofString "part"), key := .str (.ofString "part") 331, val := .ref 124 }, { hash := PyData.keyHash P (.ofString "unsigned"), key := .str (.ofString "unsigned") 344, val := .ref 131 }, { hash := PyData.keyHash P (.ofString "signed"), key := .str (.ofString "signed") 352, val := .ref 138 }, { hash := PyData.keyHash P (.ofString "u32"), key := .str (.ofString "u32") 359, val := .ref 145 }, { hash := PyData.keyHash P (.ofString "s7"), key := .str (.ofString "s7") 366, val := .ref 152 }, { hash := PyData.keyHash P (.ofString "s32"), key := .str (.ofString "s32") 373, val := .ref 159 }, { hash := PyData.keyHash P (.ofString "s33"), key := .str (.ofString "s33") 380, val := .ref 166 }, { hash := PyData.keyHash P (.ofString "s64"), key := .str (.ofString "s64") 387, val := .ref 173 }, { hash := PyData.keyHash P (.ofString "name"), key := .str (.ofString "name") 396, val := .ref 180 }, { hash := PyData.keyHash P (.ofString "__static_attributes__"), key := .str (.ofString "__static_attributes__") 400, val := .ref 181 }, { hash := PyData.keyHash P (.ofString "__dict__"), key := .str (.ofString "__dict__") 402, val := .ref 184 }, { hash := PyData.keyHash P (.ofString "__weakref__"), key := .str (.ofString "__weakref__") 404, val := .ref 185 }, { hash := PyData.keyHash P (.ofString "__doc__"), key := .str (.ofString "__doc__") 405, val := .none }] 4 },
  { cls := .type "type", data := Data.cls { name := .ofString "Cursor", bases := [.type "object"], mro := [.ref 183, .type "object"], ns := 182, qualname := .ofString "Cursor" }, slots := #[none, none, some (.str (.ofString "Cursor") 262), some (.str (.ofString "Cursor") 270), some (.builtin "object.__new__"), some (.bool true)] },
  { cls := .type "getset_descriptor", data := .fields #[.str (.ofString "__dict__") 401, .ref 183, .builtin "function.__dict__", .builtin "function.__dict__#set"] },
  { cls := .type "getset_descriptor", data := .fields #[.str (.ofString "__weakref__") 403, .ref 183, .builtin "ExceptionGroup.__weakref__", .none] },
  { cls := .type "super", data := .fields #[.ref 183, .ref 183, .ref 183] },
  { cls := .type "builtin_function_or_method", data := .fields #[.builtin "object.__init_subclass__", .ref 183] }]
noncomputable def hc3 (P : Params) : List Obj := [
  { cls := .type "tuple", data := .seq #[] },
  { cls := .none, data := .fields #[] },
  { cls := .type "tuple", data := .seq #[.str (.ofString "octet") 411, .str (.ofString "at") 412] },
  { cls := .type "tuple", data := .seq #[] },
  { cls := .none, data := .func { name := .ofString "head_of", qualname := .ofString "head_of", params := fnParams (stAt 8), body := FuncBody.stmts (fnBody (stAt 8)), scope := fnScope (stAt 8), globals := 0, closure := [], defaults := .none, kwdefaults := .none } },
  { cls := .type "code", data := .fields #[.str (.ofString "head_of") 408, .str (.ofString "head_of") 409, .str (.ofString "/claim/cut.py") 410, .int 95 0, .int 2 0, .int 0 0, .int 0 0, .int 3 0, .ref 188, .bool true, .int 181 0, .ref 189, .none, .ref 190, .ref 191, .ref 192, .int 413 0, .int 95 0, .str (.ofString "/claim/cut.py") 414] },
  { cls := .type "function", data := .func { name := .ofString "head_of", qualname := .ofString "head_of", params := fnParams (stAt 8), body := FuncBody.stmts (fnBody (stAt 8)), scope := fnScope (stAt 8), globals := 3, closure := [], defaults := .none, kwdefaults := .none, pyModule := .str (.ofString "wasmcore.octets") 260, code := .ref 193 } },
  { cls := .type "tuple", data := .seq #[.int 0 416] },
  { cls := .type "tuple", data := .seq #[] },
  { cls := .none, data := .fields #[] },
  { cls := .type "tuple", data := .seq #[.str (.ofString "octets") 420, .str (.ofString "begin") 421, .str (.ofString "signs") 422, .str (.ofString "at") 423, .str (.ofString "follow") 424, .str (.ofString "point") 425, .str (.ofString "least") 426, .str (.ofString "octet") 427] },
  { cls := .type "tuple", data := .seq #[] },
  { cls := .none, data := .func { name := .ofString "text_of", qualname := .ofString "text_of", params := fnParams (stAt 9), body := FuncBody.stmts (fnBody (stAt 9)), scope := fnScope (stAt 9), globals := 0, closure := [], defaults := .none, kwdefaults := .none } },
  { cls := .type "code", data := .fields #[.str (.ofString "text_of") 417, .str (.ofString "text_of") 418, .str (.ofString "/claim/cut.py") 419, .int 105 0, .int 2 0, .int 0 0, .int 0 0, .int 3 0, .ref 196, .bool true, .int 181 0, .ref 197, .none, .ref 198, .ref 199, .ref 200, .int 428 0, .int 105 0, .str (.ofString "/claim/cut.py") 429] },
  { cls := .type "function", data := .func { name := .ofString "text_of", qualname := .ofString "text_of", params := fnParams (stAt 9), body := FuncBody.stmts (fnBody (stAt 9)), scope := fnScope (stAt 9), globals := 3, closure := [], defaults := .ref 195, kwdefaults := .none, pyModule := .str (.ofString "wasmcore.octets") 260, code := .ref 201 } },
  { cls := .type "tuple", data := .seq #[] },
  { cls := .type "builtin_function_or_method", data := .fields #[.builtin "type.__prepare__", .type "type"] },
  { cls := .type "dict", data := .dict #[{ hash := PyData.keyHash P (.ofString "__module__"), key := .str (.ofString "__module__") 446, val := .str (.ofString "wasmcore.namesect") 431 }, { hash := PyData.keyHash P (.ofString "__qualname__"), key := .str (.ofString "__qualname__") 448, val := .str (.ofString "Names") 447 }, { hash := PyData.keyHash P (.ofString "__firstlineno__"), key := .str (.ofString "__firstlineno__") 450, val := .int 124 449 }, { hash := PyData.keyHash P (.ofString "__init__"), key := .str (.ofString "__init__") 457, val := .ref 216 }, { hash := PyData.keyHash P (.ofString "__static_attributes__"), key := .str (.ofString "__static_attributes__") 462, val := .ref 217 }] 5 },
  { cls := .type "tuple", data := .seq #[] },
  { cls := .none, data := .fields #[.int 126 0, .int 4 0, .ref 215] },
  { cls := .type "code", data := .fields #[.str (.ofString "Names") 441, .str (.ofString "Names") 442, .str (.ofString "/claim/cut.py") 443, .int 124 0, .int 0 0, .int 0 0, .int 0 0, .int 0 0, .ref 206, .bool false, .int 181 0, .ref 207, .none, .none, .none, .none, .int 444 0, .int 124 0, .str (.ofString "/claim/cut.py") 445] },
  { cls := .type "frame", slots := #[some (.ref 208), some (.ref 3), some (.ref 205), none, some (.str (.ofString "wasmcore.namesect") 431), none, some (.ref 0)] },
  { cls := .type "tuple", data := .seq #[] },
  { cls := .none, data := .fields #[] },
  { cls := .type "tuple", data := .seq #[.str (.ofString "self") 454] },
  { cls := .type "tuple", data := .seq #[] },
  { cls := .none, data := .func { name := .ofString "__init__", qualname := .ofString "Names.__init__", params := fnParams (stIn 14 0), body := FuncBody.stmts (fnBody (stIn 14 0)), scope := fnScope (stIn 14 0), globals := 0, closure := [], defaults := .none, kwdefaults := .none } },
  { cls := .type "code", data := .fields #[.str (.ofString "__init__") 451, .str (.ofString "Names.__init__") 452, .str (.ofString "/claim/cut.py") 453, .int 126 0, .int 1 0, .int 0 0, .int 0 0, .int 3 0, .ref 210, .bool true, .int 181 0, .ref 211, .none, .ref 212, .ref 213, .ref 214, .int 455 0, .int 126 0, .str (.ofString "/claim/cut.py") 456] },
  { cls := .type "function", data := .func { name := .ofString "__init__", qualname := .ofString "Names.__init__", params := fnParams (stIn 14 0), body := FuncBody.stmts (fnBody (stIn 14 0)), scope := fnScope (stIn 14 0), globals := 3, closure := [], defaults := .none, kwdefaults := .none, pyModule := .str (.ofString "wasmcore.namesect") 431, code := .ref 215 } },
  { cls := .type "tuple", data := .seq #[.str (.ofString "funcs") 458, .str (.ofString "is_whole") 459, .str (.ofString "locals") 460, .str (.ofString "module") 461] },
  { cls := .type "dict", data := .dict #[{ hash := PyData.keyHash P (.ofString "__module__"), key := .str (.ofString "__module__") 446, val := .str (.ofString "wasmcore.namesect") 431 }, { hash := PyData.keyHash P (.ofString "__firstlineno__"), key := .str (.ofString "__firstlineno__") 450, val := .int 124 449 }, { hash := PyData.keyHash P (.ofString "__init__"), key := .str (.ofString "__init__") 457, val := .ref 216 }, { hash := PyData.keyHash P (.ofString "__static_attributes__"), key := .str (.ofString "__static_attributes__") 462, val := .ref 217 }, { hash := PyData.keyHash P (.ofString "__dict__"), key := .str (.ofString "__dict__") 464, val := .ref 220 }, { hash := PyData.keyHash P (.ofString "__weakref__"), key := .str (.ofString "__weakref__") 466, val := .ref 221 }, { hash := PyData.keyHash P (.ofString "__doc__"), key := .str (.ofString "__doc__") 467, val := .none }] 4 },
  { cls := .type "type", data := Data.cls { name := .ofString "Names", bases := [.type "object"], mro := [.ref 219, .type "object"], ns := 218, qualname := .ofString "Names" }, slots := #[none, none, some (.str (.ofString "Names") 439), some (.str (.ofString "Names") 447), some (.builtin "object.__new__"), some (.bool true)] },
  { cls := .type "getset_descriptor", data := .fields #[.str (.ofString "__dict__") 463, .ref 219, .builtin "function.__dict__", .builtin "function.__dict__#set"] },
  { cls := .type "getset_descriptor", data := .fields #[.str (.ofString "__weakref__") 465, .ref 219, .builtin "ExceptionGroup.__weakref__", .none] },
  { cls := .type "super", data := .fields #[.ref 219, .ref 219, .ref 219] },
  { cls := .type "builtin_function_or_method", data := .fields #[.builtin "object.__init_subclass__", .ref 219] },
  { cls := .type "tuple", data := .seq #[] },
  { cls := .none, data := .fields #[] },
  { cls := .type "tuple", data := .seq #[.str (.ofString "part") 473, .str (.ofString "found") 474, .str (.ofString "last") 475, .str (.ofString "turn") 476, .str (.ofString "at") 477, .str (.ofString "index") 478] },
  { cls := .type "tuple", data := .seq #[] },
  { cls := .none, data := .func { name := .ofString "read_map", qualname := .ofString "read_map", params := fnParams (stAt 15), body := FuncBody.stmts (fnBody (stAt 15)), scope := fnScope (stAt 15), globals := 0, closure := [], defaults := .none, kwdefaults := .none } },
  { cls := .type "code", data := .fields #[.str (.ofString "read_map") 470, .str (.ofString "read_map") 471, .str (.ofString "/claim/cut.py") 472, .int 131 0, .int 2 0, .int 0 0, .int 0 0, .int 3 0, .ref 224, .bool true, .int 181 0, .ref 225, .none, .ref 226, .ref 227, .ref 228, .int 479 0, .int 131 0, .str (.ofString "/claim/cut.py") 480] },
  { cls := .type "function", data := .func { name := .ofString "read_map", qualname := .ofString "read_map", params := fnParams (stAt 15), body := FuncBody.stmts (fnBody (stAt 15)), scope := fnScope (stAt 15), globals := 3, closure := [], defaults := .none, kwdefaults := .none, pyModule := .str (.ofString "wasmcore.namesect") 431, code := .ref 229 } },
  { cls := .type "tuple", data := .seq #[] },
  { cls := .none, data := .fields #[] },
  { cls := .type "tuple", data := .seq #[.str (.ofString "part") 485, .str (.ofString "found") 486, .str (.ofString "last") 487, .str (.ofString "turn") 488, .str (.ofString "at") 489, .str (.ofString "func") 490] },
  { cls := .type "tuple", data := .seq #[] },
  { cls := .none, data := .func { name := .ofString "read_locals", qualname := .ofString "read_locals", params := fnParams (stAt 16), body := FuncBody.stmts (fnBody (stAt 16)), scope := fnScope (stAt 16), globals := 0, closure := [], defaults := .none, kwdefaults := .none } },
  { cls := .type "code", data := .fields #[.str (.ofString "read_locals") 482, .str (.ofString "read_locals") 483, .str (.ofString "/claim/cut.py") 484, .int 140 0, .int 2 0, .int 0 0, .int 0 0, .int 3 0, .ref 231, .bool true, .int 181 0, .ref 232, .none, .ref 233, .ref 234, .ref 235, .int 491 0, .int 140 0, .str (.ofString "/claim/cut.py") 492] },
  { cls := .type "function", data := .func { name := .ofString "read_locals", qualname := .ofString "read_locals", params := fnParams (stAt 16), body := FuncBody.stmts (fnBody (stAt 16)), scope := fnScope (stAt 16), globals := 3, closure := [], defaults := .none, kwdefaults := .none, pyModule := .str (.ofString "wasmcore.namesect") 431, code := .ref 236 } }]
noncomputable def hc4 (P : Params) : List Obj := [
  { cls := .type "tuple", data := .seq #[] },
  { cls := .none, data := .fields #[] },
  { cls := .type "tuple", data := .seq #[.str (.ofString "names") 497, .str (.ofString "sort") 498, .str (.ofString "part") 499] },
  { cls := .type "tuple", data := .seq #[] },
  { cls := .none, data := .func { name := .ofString "read_part", qualname := .ofString "read_part", params := fnParams (stAt 17), body := FuncBody.stmts (fnBody (stAt 17)), scope := fnScope (stAt 17), globals := 0, closure := [], defaults := .none, kwdefaults := .none } },
  { cls := .type "code", data := .fields #[.str (.ofString "read_part") 494, .str (.ofString "read_part") 495, .str (.ofString "/claim/cut.py") 496, .int 150 0, .int 3 0, .int 0 0, .int 0 0, .int 3 0, .ref 238, .bool true, .int 181 0, .ref 239, .none, .ref 240, .ref 241, .ref 242, .int 500 0, .int 150 0, .str (.ofString "/claim/cut.py") 501] },
  { cls := .type "function", data := .func { name := .ofString "read_part", qualname := .ofString "read_part", params := fnParams (stAt 17), body := FuncBody.stmts (fnBody (stAt 17)), scope := fnScope (stAt 17), globals := 3, closure := [], defaults := .none, kwdefaults := .none, pyModule := .str (.ofString "wasmcore.namesect") 431, code := .ref 243 } },
  { cls := .type "tuple", data := .seq #[] },
  { cls := .none, data := .fields #[] },
  { cls := .type "tuple", data := .seq #[.str (.ofString "octets") 506, .str (.ofString "names") 507, .str (.ofString "cursor") 508, .str (.ofString "last") 509, .str (.ofString "at") 510, .str (.ofString "sort") 511, .str (.ofString "many") 512] },
  { cls := .type "tuple", data := .seq #[] },
  { cls := .none, data := .func { name := .ofString "read_section", qualname := .ofString "read_section", params := fnParams (stAt 18), body := FuncBody.stmts (fnBody (stAt 18)), scope := fnScope (stAt 18), globals := 0, closure := [], defaults := .none, kwdefaults := .none } },
  { cls := .type "code", data := .fields #[.str (.ofString "read_section") 503, .str (.ofString "read_section") 504, .str (.ofString "/claim/cut.py") 505, .int 160 0, .int 1 0, .int 0 0, .int 0 0, .int 3 0, .ref 245, .bool true, .int 181 0, .ref 246, .none, .ref 247, .ref 248, .ref 249, .int 513 0, .int 160 0, .str (.ofString "/claim/cut.py") 514] },
  { cls := .type "function", data := .func { name := .ofString "read_section", qualname := .ofString "read_section", params := fnParams (stAt 18), body := FuncBody.stmts (fnBody (stAt 18)), scope := fnScope (stAt 18), globals := 3, closure := [], defaults := .none, kwdefaults := .none, pyModule := .str (.ofString "wasmcore.namesect") 431, code := .ref 250 } },
  { cls := .type "tuple", data := .seq #[] },
  { cls := .none, data := .fields #[] },
  { cls := .type "tuple", data := .seq #[.str (.ofString "tape") 521] },
  { cls := .type "tuple", data := .seq #[] },
  { cls := .none, data := .func { name := .ofString "_law_next", qualname := .ofString "_law_next", params := fnParams (stAt 20), body := FuncBody.stmts (fnBody (stAt 20)), scope := fnScope (stAt 20), globals := 0, closure := [], defaults := .none, kwdefaults := .none } },
  { cls := .type "code", data := .fields #[.str (.ofString "_law_next") 518, .str (.ofString "_law_next") 519, .str (.ofString "/claim/cut.py") 520, .int 177 0, .int 1 0, .int 0 0, .int 0 0, .int 3 0, .ref 252, .bool true, .int 181 0, .ref 253, .none, .ref 254, .ref 255, .ref 256, .int 522 0, .int 177 0, .str (.ofString "/claim/cut.py") 523] },
  { cls := .type "function", data := .func { name := .ofString "_law_next", qualname := .ofString "_law_next", params := fnParams (stAt 20), body := FuncBody.stmts (fnBody (stAt 20)), scope := fnScope (stAt 20), globals := 3, closure := [], defaults := .none, kwdefaults := .none, pyModule := .str (.ofString "law_nm0124_01") 516, code := .ref 257 } },
  { cls := .type "tuple", data := .seq #[] },
  { cls := .none, data := .fields #[] },
  { cls := .type "tuple", data := .seq #[.str (.ofString "number") 528] },
  { cls := .type "tuple", data := .seq #[] },
  { cls := .none, data := .func { name := .ofString "_law_number", qualname := .ofString "_law_number", params := fnParams (stAt 21), body := FuncBody.stmts (fnBody (stAt 21)), scope := fnScope (stAt 21), globals := 0, closure := [], defaults := .none, kwdefaults := .none } },
  { cls := .type "code", data := .fields #[.str (.ofString "_law_number") 525, .str (.ofString "_law_number") 526, .str (.ofString "/claim/cut.py") 527, .int 179 0, .int 1 0, .int 0 0, .int 0 0, .int 3 0, .ref 259, .bool true, .int 181 0, .ref 260, .none, .ref 261, .ref 262, .ref 263, .int 529 0, .int 179 0, .str (.ofString "/claim/cut.py") 530] },
  { cls := .type "function", data := .func { name := .ofString "_law_number", qualname := .ofString "_law_number", params := fnParams (stAt 21), body := FuncBody.stmts (fnBody (stAt 21)), scope := fnScope (stAt 21), globals := 3, closure := [], defaults := .none, kwdefaults := .none, pyModule := .str (.ofString "law_nm0124_01") 516, code := .ref 264 } },
  { cls := .type "tuple", data := .seq #[] },
  { cls := .none, data := .fields #[] },
  { cls := .none, data := .func { name := .ofString "_law_sign", qualname := .ofString "_law_sign", params := fnParams (stAt 22), body := FuncBody.stmts (fnBody (stAt 22)), scope := fnScope (stAt 22), globals := 0, closure := [], defaults := .none, kwdefaults := .none } },
  { cls := .type "code", data := .fields #[.str (.ofString "_law_sign") 532, .str (.ofString "_law_sign") 533, .str (.ofString "/claim/cut.py") 534, .int 183 0, .int 1 0, .int 0 0, .int 0 0, .int 3 0, .ref 266, .bool true, .int 181 0, .ref 267, .none, .none, .none, .ref 268, .int 535 0, .int 183 0, .str (.ofString "/claim/cut.py") 536] },
  { cls := .type "function", data := .func { name := .ofString "_law_sign", qualname := .ofString "_law_sign", params := fnParams (stAt 22), body := FuncBody.stmts (fnBody (stAt 22)), scope := fnScope (stAt 22), globals := 3, closure := [], defaults := .none, kwdefaults := .none, pyModule := .str (.ofString "law_nm0124_01") 516, code := .ref 269 } },
  { cls := .type "tuple", data := .seq #[] },
  { cls := .none, data := .fields #[] },
  { cls := .none, data := .func { name := .ofString "_law_told", qualname := .ofString "_law_told", params := fnParams (stAt 23), body := FuncBody.stmts (fnBody (stAt 23)), scope := fnScope (stAt 23), globals := 0, closure := [], defaults := .none, kwdefaults := .none } },
  { cls := .type "code", data := .fields #[.str (.ofString "_law_told") 538, .str (.ofString "_law_told") 539, .str (.ofString "/claim/cut.py") 540, .int 189 0, .int 1 0, .int 0 0, .int 0 0, .int 3 0, .ref 271, .bool true, .int 181 0, .ref 272, .none, .none, .none, .ref 273, .int 541 0, .int 189 0, .str (.ofString "/claim/cut.py") 542] },
  { cls := .type "function", data := .func { name := .ofString "_law_told", qualname := .ofString "_law_told", params := fnParams (stAt 23), body := FuncBody.stmts (fnBody (stAt 23)), scope := fnScope (stAt 23), globals := 3, closure := [], defaults := .none, kwdefaults := .none, pyModule := .str (.ofString "law_nm0124_01") 516, code := .ref 274 } },
  { cls := .type "tuple", data := .seq #[] },
  { cls := .none, data := .fields #[] },
  { cls := .type "tuple", data := .seq #[.str (.ofString "tape") 547, .str (.ofString "text") 548, .str (.ofString "turn") 549, .str (.ofString "point") 550] },
  { cls := .type "tuple", data := .seq #[] },
  { cls := .none, data := .func { name := .ofString "_law_text", qualname := .ofString "_law_text", params := fnParams (stAt 24), body := FuncBody.stmts (fnBody (stAt 24)), scope := fnScope (stAt 24), globals := 0, closure := [], defaults := .none, kwdefaults := .none } },
  { cls := .type "code", data := .fields #[.str (.ofString "_law_text") 544, .str (.ofString "_law_text") 545, .str (.ofString "/claim/cut.py") 546, .int 192 0, .int 1 0, .int 0 0, .int 0 0, .int 3 0, .ref 276, .bool true, .int 181 0, .ref 277, .none, .ref 278, .ref 279, .ref 280, .int 551 0, .int 192 0, .str (.ofString "/claim/cut.py") 552] },
  { cls := .type "function", data := .func { name := .ofString "_law_text", qualname := .ofString "_law_text", params := fnParams (stAt 24), body := FuncBody.stmts (fnBody (stAt 24)), scope := fnScope (stAt 24), globals := 3, closure := [], defaults := .none, kwdefaults := .none, pyModule := .str (.ofString "law_nm0124_01") 516, code := .ref 281 } },
  { cls := .type "tuple", data := .seq #[] },
  { cls := .none, data := .fields #[] },
  { cls := .type "tuple", data := .seq #[.str (.ofString "tape") 557, .str (.ofString "many") 558, .str (.ofString "some") 559, .str (.ofString "index") 560, .str (.ofString "turn") 561] },
  { cls := .type "tuple", data := .seq #[] },
  { cls := .none, data := .func { name := .ofString "_law_some", qualname := .ofString "_law_some", params := fnParams (stAt 25), body := FuncBody.stmts (fnBody (stAt 25)), scope := fnScope (stAt 25), globals := 0, closure := [], defaults := .none, kwdefaults := .none } },
  { cls := .type "code", data := .fields #[.str (.ofString "_law_some") 554, .str (.ofString "_law_some") 555, .str (.ofString "/claim/cut.py") 556, .int 198 0, .int 2 0, .int 0 0, .int 0 0, .int 3 0, .ref 283, .bool true, .int 181 0, .ref 284, .none, .ref 285, .ref 286, .ref 287, .int 562 0, .int 198 0, .str (.ofString "/claim/cut.py") 563] },
  { cls := .type "function", data := .func { name := .ofString "_law_some", qualname := .ofString "_law_some", params := fnParams (stAt 25), body := FuncBody.stmts (fnBody (stAt 25)), scope := fnScope (stAt 25), globals := 3, closure := [], defaults := .none, kwdefaults := .none, pyModule := .str (.ofString "law_nm0124_01") 516, code := .ref 288 } },
  { cls := .type "tuple", data := .seq #[] },
  { cls := .none, data := .fields #[] },
  { cls := .type "tuple", data := .seq #[.str (.ofString "some") 568, .str (.ofString "out") 569, .str (.ofString "index") 570] },
  { cls := .type "tuple", data := .seq #[] },
  { cls := .none, data := .func { name := .ofString "_law_map", qualname := .ofString "_law_map", params := fnParams (stAt 26), body := FuncBody.stmts (fnBody (stAt 26)), scope := fnScope (stAt 26), globals := 0, closure := [], defaults := .none, kwdefaults := .none } },
  { cls := .type "code", data := .fields #[.str (.ofString "_law_map") 565, .str (.ofString "_law_map") 566, .str (.ofString "/claim/cut.py") 567, .int 204 0, .int 1 0, .int 0 0, .int 0 0, .int 3 0, .ref 290, .bool true, .int 181 0, .ref 291, .none, .ref 292, .ref 293, .ref 294, .int 571 0, .int 204 0, .str (.ofString "/claim/cut.py") 572] },
  { cls := .type "function", data := .func { name := .ofString "_law_map", qualname := .ofString "_law_map", params := fnParams (stAt 26), body := FuncBody.stmts (fnBody (stAt 26)), scope := fnScope (stAt 26), globals := 3, closure := [], defaults := .none, kwdefaults := .none, pyModule := .str (.ofString "law_nm0124_01") 516, code := .ref 295 } },
  { cls := .type "tuple", data := .seq #[] },
  { cls := .none, data := .fields #[] },
  { cls := .type "tuple", data := .seq #[.str (.ofString "sort") 577, .str (.ofString "octets") 578] },
  { cls := .type "tuple", data := .seq #[] },
  { cls := .none, data := .func { name := .ofString "_law_part", qualname := .ofString "_law_part", params := fnParams (stAt 27), body := FuncBody.stmts (fnBody (stAt 27)), scope := fnScope (stAt 27), globals := 0, closure := [], defaults := .none, kwdefaults := .none } },
  { cls := .type "code", data := .fields #[.str (.ofString "_law_part") 574, .str (.ofString "_law_part") 575, .str (.ofString "/claim/cut.py") 576, .int 209 0, .int 2 0, .int 0 0, .int 0 0, .int 3 0, .ref 297, .bool true, .int 181 0, .ref 298, .none, .ref 299, .ref 300, .ref 301, .int 579 0, .int 209 0, .str (.ofString "/claim/cut.py") 580] },
  { cls := .type "function", data := .func { name := .ofString "_law_part", qualname := .ofString "_law_part", params := fnParams (stAt 27), body := FuncBody.stmts (fnBody (stAt 27)), scope := fnScope (stAt 27), globals := 3, closure := [], defaults := .none, kwdefaults := .none, pyModule := .str (.ofString "law_nm0124_01") 516, code := .ref 302 } },
  { cls := .type "tuple", data := .seq #[] },
  { cls := .none, data := .fields #[] },
  { cls := .type "tuple", data := .seq #[.str (.ofString "title") 585, .str (.ofString "funcs") 586, .str (.ofString "rows") 587, .str (.ofString "out") 588, .str (.ofString "inner") 589, .str (.ofString "func") 590] },
  { cls := .type "tuple", data := .seq #[] },
  { cls := .none, data := .func { name := .ofString "_law_written", qualname := .ofString "_law_written", params := fnParams (stAt 28), body := FuncBody.stmts (fnBody (stAt 28)), scope := fnScope (stAt 28), globals := 0, closure := [], defaults := .none, kwdefaults := .none } },
  { cls := .type "code", data := .fields #[.str (.ofString "_law_written") 582, .str (.ofString "_law_written") 583, .str (.ofString "/claim/cut.py") 584, .int 211 0, .int 3 0, .int 0 0, .int 0 0, .int 3 0, .ref 304, .bool true, .int 181 0, .ref 305, .none, .ref 306, .ref 307, .ref 308, .int 591 0, .int 211 0, .str (.ofString "/claim/cut.py") 592] },
  { cls := .type "function", data := .func { name := .ofString "_law_written", qualname := .ofString "_law_written", params := fnParams (stAt 28), body := FuncBody.stmts (fnBody (stAt 28)), scope := fnScope (stAt 28), globals := 3, closure := [], defaults := .none, kwdefaults := .none, pyModule := .str (.ofString "law_nm0124_01") 516, code := .ref 309 } },
  { cls := .type "tuple", data := .seq #[] },
  { cls := .none, data := .fields #[] },
  { cls := .type "tuple", data := .seq #[.str (.ofString "octets") 597, .str (.ofString "way") 598, .str (.ofString "place") 599, .str (.ofString "value") 600, .str (.ofString "at") 601] },
  { cls := .type "tuple", data := .seq #[] },
  { cls := .none, data := .func { name := .ofString "_law_changed", qualname := .ofString "_law_changed", params := fnParams (stAt 29), body := FuncBody.stmts (fnBody (stAt 29)), scope := fnScope (stAt 29), globals := 0, closure := [], defaults := .none, kwdefaults := .none } },
  { cls := .type "code", data := .fields #[.str (.ofString "_law_changed") 594, .str (.ofString "_law_changed") 595, .str (.ofString "/claim/cut.py") 596, .int 221 0, .int 4 0, .int 0 0, .int 0 0, .int 3 0, .ref 311, .bool true, .int 181 0, .ref 312, .none, .ref 313, .ref 314, .ref 315, .int 602 0, .int 221 0, .str (.ofString "/claim/cut.py") 603] },
  { cls := .type "function", data := .func { name := .ofString "_law_changed", qualname := .ofString "_law_changed", params := fnParams (stAt 29), body := FuncBody.stmts (fnBody (stAt 29)), scope := fnScope (stAt 29), globals := 3, closure := [], defaults := .none, kwdefaults := .none, pyModule := .str (.ofString "law_nm0124_01") 516, code := .ref 316 } }]
noncomputable def hc5 (P : Params) : List Obj := [
  { cls := .type "tuple", data := .seq #[] },
  { cls := .none, data := .fields #[] },
  { cls := .type "tuple", data := .seq #[.str (.ofString "state") 608, .str (.ofString "found") 609, .str (.ofString "k") 610, .str (.ofString "octet") 611] },
  { cls := .type "tuple", data := .seq #[] },
  { cls := .none, data := .func { name := .ofString "_law_u32", qualname := .ofString "_law_u32", params := fnParams (stAt 30), body := FuncBody.stmts (fnBody (stAt 30)), scope := fnScope (stAt 30), globals := 0, closure := [], defaults := .none, kwdefaults := .none } },
  { cls := .type "code", data := .fields #[.str (.ofString "_law_u32") 605, .str (.ofString "_law_u32") 606, .str (.ofString "/claim/cut.py") 607, .int 228 0, .int 1 0, .int 0 0, .int 0 0, .int 3 0, .ref 318, .bool true, .int 181 0, .ref 319, .none, .ref 320, .ref 321, .ref 322, .int 612 0, .int 228 0, .str (.ofString "/claim/cut.py") 613] },
  { cls := .type "function", data := .func { name := .ofString "_law_u32", qualname := .ofString "_law_u32", params := fnParams (stAt 30), body := FuncBody.stmts (fnBody (stAt 30)), scope := fnScope (stAt 30), globals := 3, closure := [], defaults := .none, kwdefaults := .none, pyModule := .str (.ofString "law_nm0124_01") 516, code := .ref 323 } },
  { cls := .type "tuple", data := .seq #[] },
  { cls := .none, data := .fields #[] },
  { cls := .type "tuple", data := .seq #[.str (.ofString "state") 618, .str (.ofString "many") 619, .str (.ofString "octets") 620, .str (.ofString "text") 621, .str (.ofString "at") 622, .str (.ofString "first") 623, .str (.ofString "size") 624, .str (.ofString "point") 625, .str (.ofString "octet") 626] },
  { cls := .type "tuple", data := .seq #[] },
  { cls := .none, data := .func { name := .ofString "_law_name", qualname := .ofString "_law_name", params := fnParams (stAt 31), body := FuncBody.stmts (fnBody (stAt 31)), scope := fnScope (stAt 31), globals := 0, closure := [], defaults := .none, kwdefaults := .none } },
  { cls := .type "code", data := .fields #[.str (.ofString "_law_name") 615, .str (.ofString "_law_name") 616, .str (.ofString "/claim/cut.py") 617, .int 239 0, .int 1 0, .int 0 0, .int 0 0, .int 3 0, .ref 325, .bool true, .int 181 0, .ref 326, .none, .ref 327, .ref 328, .ref 329, .int 627 0, .int 239 0, .str (.ofString "/claim/cut.py") 628] },
  { cls := .type "function", data := .func { name := .ofString "_law_name", qualname := .ofString "_law_name", params := fnParams (stAt 31), body := FuncBody.stmts (fnBody (stAt 31)), scope := fnScope (stAt 31), globals := 3, closure := [], defaults := .none, kwdefaults := .none, pyModule := .str (.ofString "law_nm0124_01") 516, code := .ref 330 } },
  { cls := .type "tuple", data := .seq #[] },
  { cls := .none, data := .fields #[] },
  { cls := .type "tuple", data := .seq #[.str (.ofString "state") 633, .str (.ofString "found") 634, .str (.ofString "many") 635, .str (.ofString "last") 636, .str (.ofString "turn") 637, .str (.ofString "index") 638, .str (.ofString "text") 639] },
  { cls := .type "tuple", data := .seq #[] },
  { cls := .none, data := .func { name := .ofString "_law_names", qualname := .ofString "_law_names", params := fnParams (stAt 32), body := FuncBody.stmts (fnBody (stAt 32)), scope := fnScope (stAt 32), globals := 0, closure := [], defaults := .none, kwdefaults := .none } },
  { cls := .type "code", data := .fields #[.str (.ofString "_law_names") 630, .str (.ofString "_law_names") 631, .str (.ofString "/claim/cut.py") 632, .int 256 0, .int 2 0, .int 0 0, .int 0 0, .int 3 0, .ref 332, .bool true, .int 181 0, .ref 333, .none, .ref 334, .ref 335, .ref 336, .int 640 0, .int 256 0, .str (.ofString "/claim/cut.py") 641] },
  { cls := .type "function", data := .func { name := .ofString "_law_names", qualname := .ofString "_law_names", params := fnParams (stAt 32), body := FuncBody.stmts (fnBody (stAt 32)), scope := fnScope (stAt 32), globals := 3, closure := [], defaults := .none, kwdefaults := .none, pyModule := .str (.ofString "law_nm0124_01") 516, code := .ref 337 } },
  { cls := .type "tuple", data := .seq #[] },
  { cls := .none, data := .fields #[] },
  { cls := .type "tuple", data := .seq #[.str (.ofString "state") 646, .str (.ofString "found") 647, .str (.ofString "many") 648, .str (.ofString "last") 649, .str (.ofString "turn") 650, .str (.ofString "func") 651] },
  { cls := .type "tuple", data := .seq #[] },
  { cls := .none, data := .func { name := .ofString "_law_rows", qualname := .ofString "_law_rows", params := fnParams (stAt 33), body := FuncBody.stmts (fnBody (stAt 33)), scope := fnScope (stAt 33), globals := 0, closure := [], defaults := .none, kwdefaults := .none } },
  { cls := .type "code", data := .fields #[.str (.ofString "_law_rows") 643, .str (.ofString "_law_rows") 644, .str (.ofString "/claim/cut.py") 645, .int 266 0, .int 2 0, .int 0 0, .int 0 0, .int 3 0, .ref 339, .bool true, .int 181 0, .ref 340, .none, .ref 341, .ref 342, .ref 343, .int 652 0, .int 266 0, .str (.ofString "/claim/cut.py") 653] },
  { cls := .type "function", data := .func { name := .ofString "_law_rows", qualname := .ofString "_law_rows", params := fnParams (stAt 33), body := FuncBody.stmts (fnBody (stAt 33)), scope := fnScope (stAt 33), globals := 3, closure := [], defaults := .none, kwdefaults := .none, pyModule := .str (.ofString "law_nm0124_01") 516, code := .ref 344 } },
  { cls := .type "tuple", data := .seq #[] },
  { cls := .none, data := .fields #[] },
  { cls := .type "tuple", data := .seq #[.str (.ofString "octets") 658, .str (.ofString "state") 659, .str (.ofString "title") 660, .str (.ofString "funcs") 661, .str (.ofString "rows") 662, .str (.ofString "last") 663, .str (.ofString "sort") 664, .str (.ofString "many") 665, .str (.ofString "right") 666] },
  { cls := .type "tuple", data := .seq #[] },
  { cls := .none, data := .func { name := .ofString "_law_read", qualname := .ofString "_law_read", params := fnParams (stAt 34), body := FuncBody.stmts (fnBody (stAt 34)), scope := fnScope (stAt 34), globals := 0, closure := [], defaults := .none, kwdefaults := .none } },
  { cls := .type "code", data := .fields #[.str (.ofString "_law_read") 655, .str (.ofString "_law_read") 656, .str (.ofString "/claim/cut.py") 657, .int 277 0, .int 1 0, .int 0 0, .int 0 0, .int 3 0, .ref 346, .bool true, .int 181 0, .ref 347, .none, .ref 348, .ref 349, .ref 350, .int 667 0, .int 277 0, .str (.ofString "/claim/cut.py") 668] },
  { cls := .type "function", data := .func { name := .ofString "_law_read", qualname := .ofString "_law_read", params := fnParams (stAt 34), body := FuncBody.stmts (fnBody (stAt 34)), scope := fnScope (stAt 34), globals := 3, closure := [], defaults := .none, kwdefaults := .none, pyModule := .str (.ofString "law_nm0124_01") 516, code := .ref 351 } },
  { cls := .type "tuple", data := .seq #[] },
  { cls := .none, data := .fields #[] },
  { cls := .type "tuple", data := .seq #[.str (.ofString "octets") 673, .str (.ofString "title") 674, .str (.ofString "funcs") 675, .str (.ofString "rows") 676, .str (.ofString "right") 677, .str (.ofString "told") 678, .str (.ofString "func") 679, .str (.ofString "again") 680] },
  { cls := .type "tuple", data := .seq #[] },
  { cls := .none, data := .func { name := .ofString "_law_is_told", qualname := .ofString "_law_is_told", params := fnParams (stAt 35), body := FuncBody.stmts (fnBody (stAt 35)), scope := fnScope (stAt 35), globals := 0, closure := [], defaults := .none, kwdefaults := .none } },
  { cls := .type "code", data := .fields #[.str (.ofString "_law_is_told") 670, .str (.ofString "_law_is_told") 671, .str (.ofString "/claim/cut.py") 672, .int 300 0, .int 1 0, .int 0 0, .int 0 0, .int 3 0, .ref 353, .bool true, .int 181 0, .ref 354, .none, .ref 355, .ref 356, .ref 357, .int 681 0, .int 300 0, .str (.ofString "/claim/cut.py") 682] },
  { cls := .type "function", data := .func { name := .ofString "_law_is_told", qualname := .ofString "_law_is_told", params := fnParams (stAt 35), body := FuncBody.stmts (fnBody (stAt 35)), scope := fnScope (stAt 35), globals := 3, closure := [], defaults := .none, kwdefaults := .none, pyModule := .str (.ofString "law_nm0124_01") 516, code := .ref 358 } },
  { cls := .type "tuple", data := .seq #[] },
  { cls := .none, data := .fields #[] },
  { cls := .type "tuple", data := .seq #[.str (.ofString "script") 687, .str (.ofString "tape") 688, .str (.ofString "changes") 689, .str (.ofString "turn") 690, .str (.ofString "way") 691, .str (.ofString "place") 692, .str (.ofString "title") 693, .str (.ofString "funcs") 694, .str (.ofString "rows") 695, .str (.ofString "func") 696, .str (.ofString "octets") 697, .str (.ofString "value") 698] },
  { cls := .type "tuple", data := .seq #[] },
  { cls := .none, data := .func { name := .ofString "law", qualname := .ofString "law", params := fnParams (stAt 36), body := FuncBody.stmts (fnBody (stAt 36)), scope := fnScope (stAt 36), globals := 0, closure := [], defaults := .none, kwdefaults := .none } },
  { cls := .type "code", data := .fields #[.str (.ofString "law") 684, .str (.ofString "law") 685, .str (.ofString "/claim/cut.py") 686, .int 312 0, .int 1 0, .int 0 0, .int 0 0, .int 3 0, .ref 360, .bool true, .int 181 0, .ref 361, .none, .ref 362, .ref 363, .ref 364, .int 699 0, .int 312 0, .str (.ofString "/claim/cut.py") 700] },
  { cls := .type "function", data := .func { name := .ofString "law", qualname := .ofString "law", params := fnParams (stAt 36), body := FuncBody.stmts (fnBody (stAt 36)), scope := fnScope (stAt 36), globals := 3, closure := [], defaults := .none, kwdefaults := .none, pyModule := .str (.ofString "law_nm0124_01") 516, code := .ref 365 } }]
noncomputable def hp0 (P : Params) : Heap := { objs := Array.mk (boot_o_0 P :: boot_o_1 P :: boot_o_2 P :: boot_o_3 P ::
  boot_o_4 P :: boot_o_5 P :: boot_o_6 P :: boot_o_7 P :: boot_o_8 P :: boot_o_9 P :: boot_o_10 P :: { cls := .type "tuple", data := .seq #[] } :: { cls := .none, data := .fields #[] } :: { cls := .type "code", data := .fields #[.str (.ofString "<module>") 182, .str (.ofString "<module>") 183, .str (.ofString "/claim/cut.py") 184, .int 1 0, .int 0 0, .int 0 0, .int 0 0, .int 0 0, .ref 11, .bool false, .int 181 0, .ref 12, .none, .none, .none, .none, .int 185 0, .int 1 0, .str (.ofString "/claim/cut.py") 186] } :: { cls := .type "frame", slots := #[some (.ref 13), some (.ref 3), some (.ref 3), none, some (.str (.ofString "__main__") 164), none, some (.ref 0)] } :: []) }
noncomputable def hp1 (P : Params) : Heap := { objs := Array.mk (boot_o_0 P :: boot_o_1 P :: { cls := .none, data := .dict #[{ hash := PyData.keyHash P (.ofString "type.__subclasses__.Exception.0"), key := .str (.ofString "type.__subclasses__.Exception.0") 221, val := .int 38 0 }, { hash := PyData.keyHash P (.ofString "type.__subclasses__.Exception.n"), key := .str (.ofString "type.__subclasses__.Exception.n") 222, val := .int 1 0 }] 2 } :: { cls := .type "dict", data := .dict #[{ hash := PyData.keyHash P (.ofString "__name__"), key := .str (.ofString "__name__") 165, val := .str (.ofString "wasmcore.octets") 260 }, { hash := PyData.keyHash P (.ofString "__doc__"), key := .str (.ofString "__doc__") 166, val := .none }, { hash := PyData.keyHash P (.ofString "__package__"), key := .str (.ofString "__package__") 167, val := .none }, { hash := PyData.keyHash P (.ofString "__loader__"), key := .str (.ofString "__loader__") 168, val := .builtin "__main__.__loader__#opaque" }, { hash := PyData.keyHash P (.ofString "__spec__"), key := .str (.ofString "__spec__") 169, val := .none }, { hash := PyData.keyHash P (.ofString "__annotations__"), key := .str (.ofString "__annotations__") 170, val := .ref 6 }, { hash := PyData.keyHash P (.ofString "__builtins__"), key := .str (.ofString "__builtins__") 171, val := .ref 4 }, { hash := PyData.keyHash P (.ofString "__file__"), key := .str (.ofString "__file__") 173, val := .str (.ofString "/claim/cut.py") 172 }, { hash := PyData.keyHash P (.ofString "__cached__"), key := .str (.ofString "__cached__") 174, val := .none }, { hash := PyData.keyHash P (.ofString "_wall"), key := .str (.ofString "_wall") 193, val := .ref 21 }, { hash := PyData.keyHash P (.ofString "WasmFault"), key := .str (.ofString "WasmFault") 224, val := .ref 38 }, { hash := PyData.keyHash P (.ofString "Malformed"), key := .str (.ofString "Malformed") 250, val := .ref 58 }, { hash := PyData.keyHash P (.ofString "want_just"), key := .str (.ofString "want_just") 259, val := .ref 67 }] 13 } ::
  boot_o_4 P :: boot_o_5 P :: boot_o_6 P :: boot_o_7 P :: boot_o_8 P :: boot_o_9 P :: boot_o_10 P :: { cls := .type "tuple", data := .seq #[] } :: { cls := .none, data := .fields #[.int 1 0, .int 0 0, .ref 20, .int 5 0, .int 0 0, .ref 27, .int 10 0, .int 0 0, .ref 47, .int 16 0, .int 0 0, .ref 66] } :: { cls := .type "code", data := .fields #[.str (.ofString "<module>") 182, .str (.ofString "<module>") 183, .str (.ofString "/claim/cut.py") 184, .int 1 0, .int 0 0, .int 0 0, .int 0 0, .int 0 0, .ref 11, .bool false, .int 181 0, .ref 12, .none, .none, .none, .none, .int 185 0, .int 1 0, .str (.ofString "/claim/cut.py") 186] } :: { cls := .type "frame", slots := #[some (.ref 13), some (.ref 3), some (.ref 3), none, some (.str (.ofString "__main__") 164), none, some (.ref 0)] } :: hc1 P) }
noncomputable def hp2 (P : Params) : Heap := { objs := Array.mk (boot_o_0 P :: boot_o_1 P :: { cls := .none, data := .dict #[{ hash := PyData.keyHash P (.ofString "type.__subclasses__.Exception.0"), key := .str (.ofString "type.__subclasses__.Exception.0") 221, val := .int 38 0 }, { hash := PyData.keyHash P (.ofString "type.__subclasses__.Exception.n"), key := .str (.ofString "type.__subclasses__.Exception.n") 222, val := .int 1 0 }] 2 } :: { cls := .type "dict", data := .dict #[{ hash := PyData.keyHash P (.ofString "__name__"), key := .str (.ofString "__name__") 165, val := .str (.ofString "wasmcore.octets") 260 }, { hash := PyData.keyHash P (.ofString "__doc__"), key := .str (.ofString "__doc__") 166, val := .none }, { hash := PyData.keyHash P (.ofString "__package__"), key := .str (.ofString "__package__") 167, val := .none }, { hash := PyData.keyHash P (.ofString "__loader__"), key := .str (.ofString "__loader__") 168, val := .builtin "__main__.__loader__#opaque" }, { hash := PyData.keyHash P (.ofString "__spec__"), key := .str (.ofString "__spec__") 169, val := .none }, { hash := PyData.keyHash P (.ofString "__annotations__"), key := .str (.ofString "__annotations__") 170, val := .ref 6 }, { hash := PyData.keyHash P (.ofString "__builtins__"), key := .str (.ofString "__builtins__") 171, val := .ref 4 }, { hash := PyData.keyHash P (.ofString "__file__"), key := .str (.ofString "__file__") 173, val := .str (.ofString "/claim/cut.py") 172 }, { hash := PyData.keyHash P (.ofString "__cached__"), key := .str (.ofString "__cached__") 174, val := .none }, { hash := PyData.keyHash P (.ofString "_wall"), key := .str (.ofString "_wall") 193, val := .ref 21 }, { hash := PyData.keyHash P (.ofString "WasmFault"), key := .str (.ofString "WasmFault") 224, val := .ref 38 }, { hash := PyData.keyHash P (.ofString "Malformed"), key := .str (.ofString "Malformed") 250, val := .ref 58 }, { hash := PyData.keyHash P (.ofString "want_just"), key := .str (.ofString "want_just") 259, val := .ref 67 }, { hash := PyData.keyHash P (.ofString "Cursor"), key := .str (.ofString "Cursor") 407, val := .ref 183 }] 14 } ::
  boot_o_4 P :: boot_o_5 P :: boot_o_6 P :: boot_o_7 P :: boot_o_8 P :: boot_o_9 P :: boot_o_10 P :: { cls := .type "tuple", data := .seq #[] } :: { cls := .none, data := .fields #[.int 1 0, .int 0 0, .ref 20, .int 5 0, .int 0 0, .ref 27, .int 10 0, .int 0 0, .ref 47, .int 16 0, .int 0 0, .ref 66, .int 20 0, .int 0 0, .ref 73] } :: { cls := .type "code", data := .fields #[.str (.ofString "<module>") 182, .str (.ofString "<module>") 183, .str (.ofString "/claim/cut.py") 184, .int 1 0, .int 0 0, .int 0 0, .int 0 0, .int 0 0, .ref 11, .bool false, .int 181 0, .ref 12, .none, .none, .none, .none, .int 185 0, .int 1 0, .str (.ofString "/claim/cut.py") 186] } :: { cls := .type "frame", slots := #[some (.ref 13), some (.ref 3), some (.ref 3), none, some (.str (.ofString "__main__") 164), none, some (.ref 0)] } :: hc1 P ++ (hc2 P)) }
noncomputable def hp3 (P : Params) : Heap := { objs := Array.mk (boot_o_0 P :: boot_o_1 P :: { cls := .none, data := .dict #[{ hash := PyData.keyHash P (.ofString "type.__subclasses__.Exception.0"), key := .str (.ofString "type.__subclasses__.Exception.0") 221, val := .int 38 0 }, { hash := PyData.keyHash P (.ofString "type.__subclasses__.Exception.n"), key := .str (.ofString "type.__subclasses__.Exception.n") 222, val := .int 1 0 }] 2 } :: { cls := .type "dict", data := .dict #[{ hash := PyData.keyHash P (.ofString "__name__"), key := .str (.ofString "__name__") 165, val := .str (.ofString "wasmcore.namesect") 431 }, { hash := PyData.keyHash P (.ofString "__doc__"), key := .str (.ofString "__doc__") 166, val := .none }, { hash := PyData.keyHash P (.ofString "__package__"), key := .str (.ofString "__package__") 167, val := .none }, { hash := PyData.keyHash P (.ofString "__loader__"), key := .str (.ofString "__loader__") 168, val := .builtin "__main__.__loader__#opaque" }, { hash := PyData.keyHash P (.ofString "__spec__"), key := .str (.ofString "__spec__") 169, val := .none }, { hash := PyData.keyHash P (.ofString "__annotations__"), key := .str (.ofString "__annotations__") 170, val := .ref 6 }, { hash := PyData.keyHash P (.ofString "__builtins__"), key := .str (.ofString "__builtins__") 171, val := .ref 4 }, { hash := PyData.keyHash P (.ofString "__file__"), key := .str (.ofString "__file__") 173, val := .str (.ofString "/claim/cut.py") 172 }, { hash := PyData.keyHash P (.ofString "__cached__"), key := .str (.ofString "__cached__") 174, val := .none }, { hash := PyData.keyHash P (.ofString "_wall"), key := .str (.ofString "_wall") 193, val := .ref 21 }, { hash := PyData.keyHash P (.ofString "WasmFault"), key := .str (.ofString "WasmFault") 224, val := .ref 38 }, { hash := PyData.keyHash P (.ofString "Malformed"), key := .str (.ofString "Malformed") 250, val := .ref 58 }, { hash := PyData.keyHash P (.ofString "want_just"), key := .str (.ofString "want_just") 259, val := .ref 67 }, { hash := PyData.keyHash P (.ofString "Cursor"), key := .str (.ofString "Cursor") 407, val := .ref 183 }, { hash := PyData.keyHash P (.ofString "head_of"), key := .str (.ofString "head_of") 415, val := .ref 194 }, { hash := PyData.keyHash P (.ofString "text_of"), key := .str (.ofString "text_of") 430, val := .ref 202 }, { hash := PyData.keyHash P (.ofString "MODULE_PART"), key := .str (.ofString "MODULE_PART") 434, val := .int 0 433 }, { hash := PyData.keyHash P (.ofString "FUNCS_PART"), key := .str (.ofString "FUNCS_PART") 436, val := .int 1 435 }, { hash := PyData.keyHash P (.ofString "LOCALS_PART"), key := .str (.ofString "LOCALS_PART") 438, val := .int 2 437 }, { hash := PyData.keyHash P (.ofString "Names"), key := .str (.ofString "Names") 469, val := .ref 219 }, { hash := PyData.keyHash P (.ofString "read_map"), key := .str (.ofString "read_map") 481, val := .ref 230 }, { hash := PyData.keyHash P (.ofString "read_locals"), key := .str (.ofString "read_locals") 493, val := .ref 237 }] 22 } ::
  boot_o_4 P :: boot_o_5 P :: boot_o_6 P :: boot_o_7 P :: boot_o_8 P :: boot_o_9 P :: boot_o_10 P :: { cls := .type "tuple", data := .seq #[] } :: { cls := .none, data := .fields #[.int 1 0, .int 0 0, .ref 20, .int 5 0, .int 0 0, .ref 27, .int 10 0, .int 0 0, .ref 47, .int 16 0, .int 0 0, .ref 66, .int 20 0, .int 0 0, .ref 73, .int 95 0, .int 0 0, .ref 193, .int 105 0, .int 0 0, .ref 201, .int 124 0, .int 0 0, .ref 208, .int 131 0, .int 0 0, .ref 229, .int 140 0, .int 0 0, .ref 236] } :: { cls := .type "code", data := .fields #[.str (.ofString "<module>") 182, .str (.ofString "<module>") 183, .str (.ofString "/claim/cut.py") 184, .int 1 0, .int 0 0, .int 0 0, .int 0 0, .int 0 0, .ref 11, .bool false, .int 181 0, .ref 12, .none, .none, .none, .none, .int 185 0, .int 1 0, .str (.ofString "/claim/cut.py") 186] } :: { cls := .type "frame", slots := #[some (.ref 13), some (.ref 3), some (.ref 3), none, some (.str (.ofString "__main__") 164), none, some (.ref 0)] } :: hc1 P ++ (hc2 P ++ (hc3 P))) }
noncomputable def hp4 (P : Params) : Heap := { objs := Array.mk (boot_o_0 P :: boot_o_1 P :: { cls := .none, data := .dict #[{ hash := PyData.keyHash P (.ofString "type.__subclasses__.Exception.0"), key := .str (.ofString "type.__subclasses__.Exception.0") 221, val := .int 38 0 }, { hash := PyData.keyHash P (.ofString "type.__subclasses__.Exception.n"), key := .str (.ofString "type.__subclasses__.Exception.n") 222, val := .int 1 0 }] 2 } :: { cls := .type "dict", data := .dict #[{ hash := PyData.keyHash P (.ofString "__name__"), key := .str (.ofString "__name__") 165, val := .str (.ofString "law_nm0124_01") 516 }, { hash := PyData.keyHash P (.ofString "__doc__"), key := .str (.ofString "__doc__") 166, val := .none }, { hash := PyData.keyHash P (.ofString "__package__"), key := .str (.ofString "__package__") 167, val := .none }, { hash := PyData.keyHash P (.ofString "__loader__"), key := .str (.ofString "__loader__") 168, val := .builtin "__main__.__loader__#opaque" }, { hash := PyData.keyHash P (.ofString "__spec__"), key := .str (.ofString "__spec__") 169, val := .none }, { hash := PyData.keyHash P (.ofString "__annotations__"), key := .str (.ofString "__annotations__") 170, val := .ref 6 }, { hash := PyData.keyHash P (.ofString "__builtins__"), key := .str (.ofString "__builtins__") 171, val := .ref 4 }, { hash := PyData.keyHash P (.ofString "__file__"), key := .str (.ofString "__file__") 173, val := .str (.ofString "/claim/cut.py") 172 }, { hash := PyData.keyHash P (.ofString "__cached__"), key := .str (.ofString "__cached__") 174, val := .none }, { hash := PyData.keyHash P (.ofString "_wall"), key := .str (.ofString "_wall") 193, val := .ref 21 }, { hash := PyData.keyHash P (.ofString "WasmFault"), key := .str (.ofString "WasmFault") 224, val := .ref 38 }, { hash := PyData.keyHash P (.ofString "Malformed"), key := .str (.ofString "Malformed") 250, val := .ref 58 }, { hash := PyData.keyHash P (.ofString "want_just"), key := .str (.ofString "want_just") 259, val := .ref 67 }, { hash := PyData.keyHash P (.ofString "Cursor"), key := .str (.ofString "Cursor") 407, val := .ref 183 }, { hash := PyData.keyHash P (.ofString "head_of"), key := .str (.ofString "head_of") 415, val := .ref 194 }, { hash := PyData.keyHash P (.ofString "text_of"), key := .str (.ofString "text_of") 430, val := .ref 202 }, { hash := PyData.keyHash P (.ofString "MODULE_PART"), key := .str (.ofString "MODULE_PART") 434, val := .int 0 433 }, { hash := PyData.keyHash P (.ofString "FUNCS_PART"), key := .str (.ofString "FUNCS_PART") 436, val := .int 1 435 }, { hash := PyData.keyHash P (.ofString "LOCALS_PART"), key := .str (.ofString "LOCALS_PART") 438, val := .int 2 437 }, { hash := PyData.keyHash P (.ofString "Names"), key := .str (.ofString "Names") 469, val := .ref 219 }, { hash := PyData.keyHash P (.ofString "read_map"), key := .str (.ofString "read_map") 481, val := .ref 230 }, { hash := PyData.keyHash P (.ofString "read_locals"), key := .str (.ofString "read_locals") 493, val := .ref 237 }, { hash := PyData.keyHash P (.ofString "read_part"), key := .str (.ofString "read_part") 502, val := .ref 244 }, { hash := PyData.keyHash P (.ofString "read_section"), key := .str (.ofString "read_section") 515, val := .ref 251 }, { hash := PyData.keyHash P (.ofString "_law_next"), key := .str (.ofString "_law_next") 524, val := .ref 258 }, { hash := PyData.keyHash P (.ofString "_law_number"), key := .str (.ofString "_law_number") 531, val := .ref 265 }, { hash := PyData.keyHash P (.ofString "_law_sign"), key := .str (.ofString "_law_sign") 537, val := .ref 270 }, { hash := PyData.keyHash P (.ofString "_law_told"), key := .str (.ofString "_law_told") 543, val := .ref 275 }, { hash := PyData.keyHash P (.ofString "_law_text"), key := .str (.ofString "_law_text") 553, val := .ref 282 }, { hash := PyData.keyHash P (.ofString "_law_some"), key := .str (.ofString "_law_some") 564, val := .ref 289 }, { hash := PyData.keyHash P (.ofString "_law_map"), key := .str (.ofString "_law_map") 573, val := .ref 296 }, { hash := PyData.keyHash P (.ofString "_law_part"), key := .str (.ofString "_law_part") 581, val := .ref 303 }, { hash := PyData.keyHash P (.ofString "_law_written"), key := .str (.ofString "_law_written") 593, val := .ref 310 }, { hash := PyData.keyHash P (.ofString "_law_changed"), key := .str (.ofString "_law_changed") 604, val := .ref 317 }] 34 } ::
  boot_o_4 P :: boot_o_5 P :: boot_o_6 P :: boot_o_7 P :: boot_o_8 P :: boot_o_9 P :: boot_o_10 P :: { cls := .type "tuple", data := .seq #[] } :: { cls := .none, data := .fields #[.int 1 0, .int 0 0, .ref 20, .int 5 0, .int 0 0, .ref 27, .int 10 0, .int 0 0, .ref 47, .int 16 0, .int 0 0, .ref 66, .int 20 0, .int 0 0, .ref 73, .int 95 0, .int 0 0, .ref 193, .int 105 0, .int 0 0, .ref 201, .int 124 0, .int 0 0, .ref 208, .int 131 0, .int 0 0, .ref 229, .int 140 0, .int 0 0, .ref 236, .int 150 0, .int 0 0, .ref 243, .int 160 0, .int 0 0, .ref 250, .int 177 0, .int 0 0, .ref 257, .int 179 0, .int 0 0, .ref 264, .int 183 0, .int 0 0, .ref 269, .int 189 0, .int 0 0, .ref 274, .int 192 0, .int 0 0, .ref 281, .int 198 0, .int 0 0, .ref 288, .int 204 0, .int 0 0, .ref 295, .int 209 0, .int 0 0, .ref 302, .int 211 0, .int 0 0, .ref 309, .int 221 0, .int 0 0, .ref 316] } :: { cls := .type "code", data := .fields #[.str (.ofString "<module>") 182, .str (.ofString "<module>") 183, .str (.ofString "/claim/cut.py") 184, .int 1 0, .int 0 0, .int 0 0, .int 0 0, .int 0 0, .ref 11, .bool false, .int 181 0, .ref 12, .none, .none, .none, .none, .int 185 0, .int 1 0, .str (.ofString "/claim/cut.py") 186] } :: { cls := .type "frame", slots := #[some (.ref 13), some (.ref 3), some (.ref 3), none, some (.str (.ofString "__main__") 164), none, some (.ref 0)] } :: hc1 P ++ (hc2 P ++ (hc3 P ++ (hc4 P)))) }
noncomputable def hp5 (P : Params) : Heap := { objs := Array.mk (boot_o_0 P :: boot_o_1 P :: { cls := .none, data := .dict #[{ hash := PyData.keyHash P (.ofString "type.__subclasses__.Exception.0"), key := .str (.ofString "type.__subclasses__.Exception.0") 221, val := .int 38 0 }, { hash := PyData.keyHash P (.ofString "type.__subclasses__.Exception.n"), key := .str (.ofString "type.__subclasses__.Exception.n") 222, val := .int 1 0 }] 2 } :: { cls := .type "dict", data := .dict #[{ hash := PyData.keyHash P (.ofString "__name__"), key := .str (.ofString "__name__") 165, val := .str (.ofString "law_nm0124_01") 516 }, { hash := PyData.keyHash P (.ofString "__doc__"), key := .str (.ofString "__doc__") 166, val := .none }, { hash := PyData.keyHash P (.ofString "__package__"), key := .str (.ofString "__package__") 167, val := .none }, { hash := PyData.keyHash P (.ofString "__loader__"), key := .str (.ofString "__loader__") 168, val := .builtin "__main__.__loader__#opaque" }, { hash := PyData.keyHash P (.ofString "__spec__"), key := .str (.ofString "__spec__") 169, val := .none }, { hash := PyData.keyHash P (.ofString "__annotations__"), key := .str (.ofString "__annotations__") 170, val := .ref 6 }, { hash := PyData.keyHash P (.ofString "__builtins__"), key := .str (.ofString "__builtins__") 171, val := .ref 4 }, { hash := PyData.keyHash P (.ofString "__file__"), key := .str (.ofString "__file__") 173, val := .str (.ofString "/claim/cut.py") 172 }, { hash := PyData.keyHash P (.ofString "__cached__"), key := .str (.ofString "__cached__") 174, val := .none }, { hash := PyData.keyHash P (.ofString "_wall"), key := .str (.ofString "_wall") 193, val := .ref 21 }, { hash := PyData.keyHash P (.ofString "WasmFault"), key := .str (.ofString "WasmFault") 224, val := .ref 38 }, { hash := PyData.keyHash P (.ofString "Malformed"), key := .str (.ofString "Malformed") 250, val := .ref 58 }, { hash := PyData.keyHash P (.ofString "want_just"), key := .str (.ofString "want_just") 259, val := .ref 67 }, { hash := PyData.keyHash P (.ofString "Cursor"), key := .str (.ofString "Cursor") 407, val := .ref 183 }, { hash := PyData.keyHash P (.ofString "head_of"), key := .str (.ofString "head_of") 415, val := .ref 194 }, { hash := PyData.keyHash P (.ofString "text_of"), key := .str (.ofString "text_of") 430, val := .ref 202 }, { hash := PyData.keyHash P (.ofString "MODULE_PART"), key := .str (.ofString "MODULE_PART") 434, val := .int 0 433 }, { hash := PyData.keyHash P (.ofString "FUNCS_PART"), key := .str (.ofString "FUNCS_PART") 436, val := .int 1 435 }, { hash := PyData.keyHash P (.ofString "LOCALS_PART"), key := .str (.ofString "LOCALS_PART") 438, val := .int 2 437 }, { hash := PyData.keyHash P (.ofString "Names"), key := .str (.ofString "Names") 469, val := .ref 219 }, { hash := PyData.keyHash P (.ofString "read_map"), key := .str (.ofString "read_map") 481, val := .ref 230 }, { hash := PyData.keyHash P (.ofString "read_locals"), key := .str (.ofString "read_locals") 493, val := .ref 237 }, { hash := PyData.keyHash P (.ofString "read_part"), key := .str (.ofString "read_part") 502, val := .ref 244 }, { hash := PyData.keyHash P (.ofString "read_section"), key := .str (.ofString "read_section") 515, val := .ref 251 }, { hash := PyData.keyHash P (.ofString "_law_next"), key := .str (.ofString "_law_next") 524, val := .ref 258 }, { hash := PyData.keyHash P (.ofString "_law_number"), key := .str (.ofString "_law_number") 531, val := .ref 265 }, { hash := PyData.keyHash P (.ofString "_law_sign"), key := .str (.ofString "_law_sign") 537, val := .ref 270 }, { hash := PyData.keyHash P (.ofString "_law_told"), key := .str (.ofString "_law_told") 543, val := .ref 275 }, { hash := PyData.keyHash P (.ofString "_law_text"), key := .str (.ofString "_law_text") 553, val := .ref 282 }, { hash := PyData.keyHash P (.ofString "_law_some"), key := .str (.ofString "_law_some") 564, val := .ref 289 }, { hash := PyData.keyHash P (.ofString "_law_map"), key := .str (.ofString "_law_map") 573, val := .ref 296 }, { hash := PyData.keyHash P (.ofString "_law_part"), key := .str (.ofString "_law_part") 581, val := .ref 303 }, { hash := PyData.keyHash P (.ofString "_law_written"), key := .str (.ofString "_law_written") 593, val := .ref 310 }, { hash := PyData.keyHash P (.ofString "_law_changed"), key := .str (.ofString "_law_changed") 604, val := .ref 317 }, { hash := PyData.keyHash P (.ofString "_law_u32"), key := .str (.ofString "_law_u32") 614, val := .ref 324 }, { hash := PyData.keyHash P (.ofString "_law_name"), key := .str (.ofString "_law_name") 629, val := .ref 331 }, { hash := PyData.keyHash P (.ofString "_law_names"), key := .str (.ofString "_law_names") 642, val := .ref 338 }, { hash := PyData.keyHash P (.ofString "_law_rows"), key := .str (.ofString "_law_rows") 654, val := .ref 345 }, { hash := PyData.keyHash P (.ofString "_law_read"), key := .str (.ofString "_law_read") 669, val := .ref 352 }, { hash := PyData.keyHash P (.ofString "_law_is_told"), key := .str (.ofString "_law_is_told") 683, val := .ref 359 }, { hash := PyData.keyHash P (.ofString "law"), key := .str (.ofString "law") 701, val := .ref 366 }] 41 } ::
  boot_o_4 P :: boot_o_5 P :: boot_o_6 P :: boot_o_7 P :: boot_o_8 P :: boot_o_9 P :: boot_o_10 P :: { cls := .type "tuple", data := .seq #[] } :: { cls := .none, data := .fields #[.int 1 0, .int 0 0, .ref 20, .int 5 0, .int 0 0, .ref 27, .int 10 0, .int 0 0, .ref 47, .int 16 0, .int 0 0, .ref 66, .int 20 0, .int 0 0, .ref 73, .int 95 0, .int 0 0, .ref 193, .int 105 0, .int 0 0, .ref 201, .int 124 0, .int 0 0, .ref 208, .int 131 0, .int 0 0, .ref 229, .int 140 0, .int 0 0, .ref 236, .int 150 0, .int 0 0, .ref 243, .int 160 0, .int 0 0, .ref 250, .int 177 0, .int 0 0, .ref 257, .int 179 0, .int 0 0, .ref 264, .int 183 0, .int 0 0, .ref 269, .int 189 0, .int 0 0, .ref 274, .int 192 0, .int 0 0, .ref 281, .int 198 0, .int 0 0, .ref 288, .int 204 0, .int 0 0, .ref 295, .int 209 0, .int 0 0, .ref 302, .int 211 0, .int 0 0, .ref 309, .int 221 0, .int 0 0, .ref 316, .int 228 0, .int 0 0, .ref 323, .int 239 0, .int 0 0, .ref 330, .int 256 0, .int 0 0, .ref 337, .int 266 0, .int 0 0, .ref 344, .int 277 0, .int 0 0, .ref 351, .int 300 0, .int 0 0, .ref 358, .int 312 0, .int 0 0, .ref 365] } :: { cls := .type "code", data := .fields #[.str (.ofString "<module>") 182, .str (.ofString "<module>") 183, .str (.ofString "/claim/cut.py") 184, .int 1 0, .int 0 0, .int 0 0, .int 0 0, .int 0 0, .ref 11, .bool false, .int 181 0, .ref 12, .none, .none, .none, .none, .int 185 0, .int 1 0, .str (.ofString "/claim/cut.py") 186] } :: { cls := .type "frame", slots := #[some (.ref 13), some (.ref 3), some (.ref 3), none, some (.str (.ofString "__main__") 164), none, some (.ref 0)] } :: hc1 P ++ (hc2 P ++ (hc3 P ++ (hc4 P ++ (hc5 P))))) }
noncomputable def env0 : Env := { scope := PySem.Challenge.pw_nm0124_01.main.scope, locals := mainNs, globals := mainNs, cells := [], code := .ref 13, frame := some 14 }
noncomputable def bodyT : List Stmt := behindTheImports PySem.Challenge.pw_nm0124_01
noncomputable def cBody : Code := .body bodyT env0
noncomputable abbrev tr0 : List Frame := [topFrame ⟨0, 0, 0, 0⟩]
noncomputable abbrev sh (h : Params → Heap) (n : Nat) (w : World) (os : OsState) : Shared := ⟨h w.params, Array.mk [], {}, n, os⟩
noncomputable abbrev sg (n : Nat) (w : World) (s : Shared) (t : Thread) := segRun treeTable PySem.Challenge.pw_nm0124_01 w 11 (some (.ref 6)) 1 n s t
noncomputable abbrev tR (n : Nat) (w : World) (s : Shared) (t : Thread) := topRun treeTable PySem.Challenge.pw_nm0124_01 w 11 (some (.ref 6)) n s t
theorem run0 (w : World) (os : OsState) : topGo treeTable PySem.Challenge.pw_nm0124_01 w 11 (some (.ref 6)) 12 ⟨boot_heap w.params, Array.mk [], boot_drawn, boot_toks, os⟩ (topStub PySem.Challenge.pw_nm0124_01) =
    some (sh hp0 187 w os, ⟨denote treeTable (.body bodyT env0), cBody, ⟨0, 0, 0, 0⟩, tr0⟩) := by kernel_rfl
theorem runS (w : World) (os : OsState) : sg 1 w (sh hp0 187 w os) (blockOf bodyT env0 cBody ⟨0, 0, 0, 0⟩ tr0) = some (.next, sh hp0 187 w os, cBody, ⟨0, 0, 0, 0⟩) := by kernel_rfl
theorem run1 (w : World) (os : OsState) : sg 600 w (sh hp0 187 w os) (piecesOf ((bodyT.drop 0).take 7) env0 cBody ⟨0, 0, 0, 0⟩ tr0) = some (.next, sh hp1 262 w os, cBody, ⟨19, 0, 19, 8⟩) := by kernel_rfl
theorem run2 (w : World) (os : OsState) : sg 700 w (sh hp1 262 w os) (piecesOf ((bodyT.drop 7).take 1) env0 cBody ⟨19, 0, 19, 8⟩ tr0) = some (.next, sh hp2 408 w os, cBody, ⟨20, 0, 94, 46⟩) := by kernel_rfl
theorem run3 (w : World) (os : OsState) : sg 420 w (sh hp2 408 w os) (piecesOf ((bodyT.drop 8).take 9) env0 cBody ⟨20, 0, 94, 46⟩ tr0) = some (.next, sh hp3 494 w os, cBody, ⟨140, 0, 149, 19⟩) := by kernel_rfl
theorem run4 (w : World) (os : OsState) : sg 400 w (sh hp3 494 w os) (piecesOf ((bodyT.drop 17).take 13) env0 cBody ⟨140, 0, 149, 19⟩ tr0) = some (.next, sh hp4 605 w os, cBody, ⟨221, 0, 227, 69⟩) := by kernel_rfl
theorem run5 (w : World) (os : OsState) : sg 270 w (sh hp4 605 w os) (piecesOf ((bodyT.drop 30).take 7) env0 cBody ⟨221, 0, 227, 69⟩ tr0) = some (.next, sh hp5 702 w os, cBody, ⟨312, 0, 329, 31⟩) := by kernel_rfl
theorem runE (w : World) (os : OsState) : tR 2 w (sh hp5 702 w os) ⟨doneF .next, cBody, ⟨312, 0, 329, 31⟩, tr0⟩ = some (sh hp5 702 w os) := by kernel_rfl
theorem size0 (w : World) : ((boot_heap w.params).isNs mainGlobals && (Array.mk ([] : List GenState)).size == 0, (boot_heap w.params).objs.size, (boot_heap w.params).nsMap mainGlobals "__annotations__") = (true, 11, some (.ref 6)) := by kernel_rfl
theorem look1 (w : World) (os : OsState) : (staticsOk (importedModules PySem.Challenge.pw_nm0124_01.main.body) (boot_heap w.params) (hp5 w.params) && namesBound PySem.Challenge.pw_nm0124_01 (hp5 w.params) && gensDone (sh hp5 702 w os) && laidKept (boot_heap w.params) (hp5 w.params)) = true := by kernel_rfl
theorem look2 (w : World) (os : OsState) : openSeen view [PySem.Str.ofString "text_of"] (importedModules PySem.Challenge.pw_nm0124_01.main.body) (fun s => xlAt view [] s && recOk [] s) true (sh hp5 702 w os) = openGood view [PySem.Str.ofString "text_of"] := by kernel_rfl
theorem look3 (w : World) (os : OsState) : Hook.obs hook (sh hp5 702 w os) = Hook.val hook w := by kernel_rfl
theorem drop_app (l : List Stmt) (a b : Nat) : (l.drop a).take b ++ l.drop (a + b) = l.drop a := by rw [← List.drop_drop]; exact List.take_append_drop _ _
theorem steps {a b n N : Nat} {s s' r : Shared} {pos p' : Pos} {w : World} (h : sg n w s (piecesOf ((bodyT.drop a).take b) env0 cBody pos tr0) = some (.next, s', cBody, p')) (k : tR N w s' (restOf (bodyT.drop (a + b)) env0 cBody p' tr0) = some r) : tR (n + N) w s (restOf (bodyT.drop a) env0 cBody pos tr0) = some r := by
  have := piece_app h k
  rwa [drop_app] at this
theorem body_len : bodyT.length = 37 := by kernel_rfl
theorem runAll (w : World) (os : OsState) : topRun treeTable PySem.Challenge.pw_nm0124_01 w 11 (some (.ref 6)) (12 + (1 + (600 + (700 + (420 + (400 + (270 + 2))))))) ⟨boot_heap w.params, Array.mk [], boot_drawn, boot_toks, os⟩ (topStub PySem.Challenge.pw_nm0124_01) = some (sh hp5 702 w os) := by
  refine go_top (run0 w os) (piece_block (runS w os) ?_)
  refine steps (a := 0) (run1 w os) (steps (a := 7) (run2 w os) (steps (a := 8) (run3 w os) (steps (a := 17) (run4 w os) (steps (a := 30) (run5 w os) ?_))))
  rw [List.drop_eq_nil_of_le (Nat.le_of_eq body_len)]
  exact piece_nil (runE w os)
theorem hl : LeftO PySem.Challenge.pw_nm0124_01 view [PySem.Str.ofString "text_of"] (fun s => xlAt view [] s && recOk [] s) (Hook.obs hook) (Hook.val hook) 4646 :=
  LeftO.of_pieces (boot_open boot1 (by decide +kernel) boot2) size0 runAll (by decide +kernel) fun w => funext fun os => Prod.ext (look1 w os) (Prod.ext (look2 w os) (look3 w os))
theorem said : PySem.Challenge.rw_nm0124_01.wellSaid = true := by
  unfold OpenLaw.wellSaid
  repeat' with_reducible refine look_both ?_ ?_
  · unfold OpenRow.wellSaid OpenRow.partSaid looksOpen
    repeat' with_reducible refine look_both ?_ ?_
    all_goals decide +kernel
  all_goals decide +kernel
-- Kt
noncomputable abbrev loose : List PySem.Str := [PySem.Str.ofString "text_of", PySem.Str.ofString "Cursor"]
noncomputable abbrev MW (w : World) : Model := model PySem.Challenge.pw_nm0124_01 w
/-- the objects that a call may turn: they stand in h and not in the ground -/
noncomputable def Own (g h : Heap) (own : List (Addr × Obj)) : Prop := ∀ p ∈ own, h.get? p.1 = some p.2 ∧ g.get? p.1 = none
/-- what holds around a call -/
structure Amb (w : World) (mean : ExcName → Option Value) (mg mb : PySem.Str → Option Value) (A : Around) (base : Heap) (outer : List Env) (g : Heap) : Prop where
  B : Below A base outer g
  X : (K w.params).In g
  T : Top view loose mean mg mb g
  hh : A.handled = none
/-- the state s over the ground g -/
structure Over (g : Heap) (s : Shared) (own : List (Addr × Obj)) : Prop where
  st : g.StaysIn s.heap
  sz : g.objs.size ≤ s.heap.objs.size
  O : Own g s.heap own
noncomputable def Rm (A : Around) (n : Nat) : Prop := A.depth + n < recursionLimit ∧ A.units + 8 * n < cLine
theorem Rm.deeper {A : Around} {n : Nat} {env : Env} (h : Rm A (n + 1)) : Rm (A.deeper env) n := by
  unfold Rm at *
  show A.depth + 1 + n < _ ∧ A.units + 3 + 8 * n < _
  lia
theorem Rm.le {A : Around} {n k : Nat} (h : Rm A n) (hk : k ≤ n) : Rm A k := by
  unfold Rm at *; lia
theorem Rm.depth {A : Around} {n : Nat} (h : Rm A n) : A.depth < recursionLimit := by unfold Rm at h; lia
theorem Rm.units {A : Around} {n : Nat} (h : Rm A n) : A.units < cLine := by unfold Rm at h; lia

/-- the result of a wpAny_call, as one predicate on results -/
noncomputable abbrev ResP (Q : Value → Shared → Prop) (E : Value → Shared → Prop) : Result → Shared → Prop := fun r s' => match r with | .ok (.ret v) => Q v s' | .ok _ => False | .error e => E e s'

section
variable {w : World} {mean : ExcName → Option Value} {mg mb : PySem.Str → Option Value} {A : Around} {base g : Heap} {outer : List Env} {s : Shared} {own : List (Addr × Obj)}
/-- a frame's names at its entry -/
noncomputable def ifs : List (PySem.Str × Value) → PySem.Str → Option Value
  | [] => fun _ => none
  | (k, v) :: r => fun y => if y = k then some v else ifs r y
theorem ifs_eq (y : PySem.Str) : ∀ l : List (PySem.Str × Value), l.lookup y = ifs l y
  | [] => rfl
  | (k, v) :: r => by
    rw [List.lookup_cons]
    show _ = if y = k then some v else ifs r y
    rw [← ifs_eq y r]
    by_cases h : y = k
    · subst h; simp
    · rw [if_neg h, beq_false_of_ne h]
/-- what a frame's names hold -/
noncomputable def AllOn (m : PySem.Str → Option Value) : List (PySem.Str × Value) → Prop
  | [] => True
  | (k, v) :: r => m k = some v ∧ AllOn m r
noncomputable def ifsE : List (PySem.Str × Value) → (PySem.Str → Option Value) → PySem.Str → Option Value
  | [], m => m
  | (k, v) :: r, m => fun y => if y = k then some v else ifsE r m y
theorem AllOn.eq {m : PySem.Str → Option Value} : ∀ {l : List (PySem.Str × Value)}, AllOn m l → m = ifsE l m
  | [], _ => rfl
  | (k, v) :: r, h => by
    funext y
    show m y = if y = k then some v else ifsE r m y
    by_cases q : y = k
    · rw [if_pos q, q]; exact h.1
    · rw [if_neg q, ← AllOn.eq h.2]
theorem Fr_on {g h : Heap} {L : Addr} {m : PySem.Str → Option Value} {l : List (PySem.Str × Value)} (F : Fr g L h m) (a : AllOn m l) : Fr g L h (ifsE l m) := a.eq ▸ F
theorem enter {R : Result → Shared → Prop} {name qual : PySem.Str} {params : Arguments} {body : List Stmt} {scope : Scope} {dV kV doc pm cdv ct oc : Value} {an od : Option Addr} {osl : Array (Option Value)} {f : Addr} {args : Args} {binds : List (PySem.Str × Value)}
    (a : Amb w mean mg mb A base outer g) (o : Over g s own)
    (ho : (K w.params).lookup f = some ⟨oc, od, .func (fnOf name qual params body scope dV kV doc pm an cdv ct), osl⟩) (hcd : codeIn (K w.params) cdv qual = true) (hroom : A.depth < recursionLimit)
    (hbind : BindsTo s (fnOf name qual params body scope dV kV doc pm an cdv ct) args binds) (hloc : ∀ y ∈ binds, scope.names.lookup y.1 = some .local)
    (h : ∀ L' h₁ tk, Fr g L' h₁ (ifs binds.reverse) → News g L' h₁ own →
      wpAny (MW w) (A.deeper (envOf qual scope L' f cdv)) (execs body (envOf qual scope L' f cdv))
        (fun fl s' => R (.ok (.ret (match fl with | .ret v => v | _ => .none))) s')
        (fun e s' => wpAny (MW w) (A.deeper (envOf qual scope L' f cdv)) (leaving (envOf qual scope L' f cdv) e) (fun _ s'' => R (.error e) s'') (fun e' s'' => R (.error e') s'') s')
        { s with heap := h₁, toks := tk })
    (hco : scope.isCoroutine = false) (hgen : scope.isGenerator = false) (hk : scope.kind = .function)
    (hcell : ∀ x ∈ scope.names, x.2 ≠ .cell) : codeAny (MW w) A (.call (.ref f) args) R s := by
  have X := a.X.keeps o.st
  refine codeAny_call_def (fd := fnOf name qual params body scope dV kV doc pm an cdv ct) (body := body) (binds := binds) hroom (X _ _ ho) rfl (a.T.nolimit.keeps o.st) (codeRec_of X hcd) rfl hbind hcell hloc (fun h₁ hns hk₁ => ?_) hco hgen hk
  have hm : (fun y => binds.reverse.lookup y) = ifs binds.reverse := funext fun y => ifs_eq y _
  exact h s.heap.objs.size h₁ _ ⟨hm ▸ hns, fun b ob e => hk₁ b ob (o.st b ob e), o.sz⟩ fun p hp => ⟨hk₁ _ _ (o.O p hp).1, Nat.ne_of_lt (Heap.lt_size (o.O p hp).1), (o.O p hp).2⟩

theorem Over.of {L : Addr} {h : Heap} {m : PySem.Str → Option Value} {g' d tk os} (F : Fr g L h m) (N : News g L h own) : Over g ⟨h, g', d, tk, os⟩ own :=
  ⟨F.keep, Nat.le_of_lt (Nat.lt_of_le_of_lt F.above F.ns.lt), fun p hp => ⟨(N p hp).1, (N p hp).2.2⟩⟩
theorem News_sub {h : Heap} {L : Addr} {news news' : List (Addr × Obj)} (N : News g L h news) (hs : ∀ p ∈ news', p ∈ news) : News g L h news' := fun p hp => N p (hs p hp)
theorem Over.sub {own' : List (Addr × Obj)} (o : Over g s own) (h : ∀ p ∈ own', p ∈ own) : Over g s own' := ⟨o.st, o.sz, fun p hp => o.O p (h p hp)⟩

/-- the ground of a call made out of a frame: all but the objects that it may turn -/
noncomputable abbrev gnd (h : Heap) (own : List (Addr × Obj)) : Heap := hideAll h (own.map (·.1))
section
variable {L f : Addr} {m : PySem.Str → Option Value} {news news' own' : List (Addr × Obj)} {qual : PySem.Str} {scope : Scope} {cd : Value}
theorem site_not (_F : Fr g L s.heap m) (N : News g L s.heap news) (hin : ∀ p ∈ own, p ∈ news) : L ∉ own.map (·.1) ∧ (∀ b ob, g.get? b = some ob → b ∉ own.map (·.1)) := by
  refine ⟨fun q => ?_, fun b ob e q => ?_⟩
  · obtain ⟨p, hp, e⟩ := List.mem_map.mp q
    exact (N p (hin p hp)).2.1 e
  · obtain ⟨p, hp, rfl⟩ := List.mem_map.mp q
    have := (N p (hin p hp)).2.2
    rw [this] at e; cases e
theorem siteA (a : Amb w mean mg mb A base outer g) (F : Fr g L s.heap m) (N : News g L s.heap news) (hin : ∀ p ∈ own, p ∈ news) (hk : scope.kind = .function) :
    Amb w mean mg mb (A.deeper (envOf qual scope L f cd)) base (envOf qual scope L f cd :: outer) (gnd s.heap own) := by
  obtain ⟨nL, nm⟩ := site_not F N hin
  have st : g.StaysIn (gnd s.heap own) := fun b ob e => hideAll_get _ (F.keep b ob e) (nm b ob e)
  have B₁ := a.B.push (name := qual) (a := f) (cd := cd) F hk
  refine ⟨⟨B₁.stack, fun b ob e => st b ob (a.B.stays b ob e), funFrames_hideAll B₁.frames fun env he b hb hf => ?_⟩, a.X.keeps st, a.T.keeps st, a.hh⟩
  cases he with
  | head => exact nL ((Option.some.inj hf : L = b) ▸ hb)
  | tail _ he =>
    obtain ⟨L₁, o₁, hf₁, ho₁⟩ := funFrames_in a.B.frames env he
    rw [hf₁] at hf
    exact nm L₁ o₁ ho₁ ((Option.some.inj hf : L₁ = b) ▸ hb)
theorem siteO (N : News g L s.heap news) (hin : ∀ p ∈ own, p ∈ news) : Over (gnd s.heap own) s own :=
  ⟨fun b ob e => of_hideAll _ e, Nat.le_of_eq (hideAll_size _ _), fun p hp => ⟨(N p (hin p hp)).1, hideAll_none _ (List.mem_map_of_mem hp)⟩⟩
theorem site_back {s' : Shared} (F : Fr g L s.heap m) (N : News g L s.heap news) (hin : ∀ p ∈ own, p ∈ news) (o' : Over (gnd s.heap own) s' own')
    (hn : ∀ p ∈ news', p ∈ own' ∨ (p ∈ news ∧ p.1 ∉ own.map (·.1))) : Fr g L s'.heap m ∧ News g L s'.heap news' := by
  obtain ⟨nL, nm⟩ := site_not F N hin
  have st : g.StaysIn (gnd s.heap own) := fun b ob e => hideAll_get _ (F.keep b ob e) (nm b ob e)
  obtain ⟨oL, es, ep, hL, hLd, hLk, hLf⟩ := F.ns
  have hLg := hideAll_get (own.map (·.1)) hL nL
  refine ⟨⟨⟨oL, es, ep, o'.st _ _ hLg, hLd, hLk, hLf⟩, fun b ob e => o'.st b ob (st b ob e), F.above⟩, fun p hp => ?_⟩
  rcases hn p hp with q | ⟨q, r⟩
  · obtain ⟨h1, h2⟩ := o'.O p q
    refine ⟨h1, fun e => ?_, ?_⟩
    · rw [e, hLg] at h2; cases h2
    · cases z : g.get? p.1 with
      | none => rfl
      | some ob => rw [st _ _ z] at h2; cases h2
  · obtain ⟨h1, h2, h3⟩ := N p q
    exact ⟨o'.st _ _ (hideAll_get _ h1 r), h2, h3⟩
end
end
-- Kx
noncomputable abbrev bmM : List Value := [.ref 38, .type "Exception", .type "BaseException", .type "object"]
noncomputable abbrev clsM : Obj := excClassObj (PySem.Str.ofString "Malformed") (PySem.Str.ofString "Malformed") 58 57 [.ref 38] bmM true [] [] false none none
  (some (.ref 42)) none (some (.str (PySem.Str.ofString "Malformed") 225)) (some (.str (PySem.Str.ofString "Malformed") 233)) (some (.bool true)) "Exception.__new__"
theorem K58 (P : Params) : (K P).lookup 58 = some clsM := by kernel_rfl
noncomputable abbrev excB := PySem.F.excBase_Exception
section
variable {w : World} {A : Around} {E : Value → Shared → Prop} {h : Heap} {g : Array GenState} {d : Drawn} {t : Nat} {os : OsState} {R : Result → Shared → Prop}
noncomputable abbrev tupO (rest : List Value) : Obj := { cls := .type "tuple", data := .seq rest.toArray }
noncomputable abbrev excO (h : Heap) : Obj := { cls := .ref 58, data := .fields #[.ref h.objs.size, .none, .none, .none, .bool false, .none] }
theorem exc_new {rest : List Value} (hC : h.get? 58 = some clsM)
    (hq : R (.ok (.ret (.ref (h.objs.size + 1)))) ⟨(h.push (tupO rest)).push (excO h), g, d, t, os⟩) (hrest : rest.length ≤ sizeLine) :
    codeAny (MW w) A (.builtin "Exception.__new__" ⟨.ref 58 :: rest, []⟩) R ⟨h, g, d, t, os⟩ := by
  have F := excB
  have hends := F.ends
  have hcB : (Value.ref 58 :: bmM).contains (.type "Exception") = true := by decide +kernel
  have hcA : (Value.ref 58 :: bmM).contains (.type "AttributeError") = false := by decide +kernel
  have hcN : (Value.ref 58 :: bmM).contains (.type "NameError") = false := by decide +kernel
  refine codeAny_builtinAt F.entry ?_
  unfold Builtin.«BaseException.__new__»
  refine PySem.wpAt_bind ?_
  show PySem.wpAt _ _ _ (stack >>= _) _ _ _
  refine PySem.wpAt_bind (PySem.wpAt_stack fun p below => PySem.wpAt_of_wpAny ?_)
  wp_walk
  refine PySem.wpAt_of_wpAny ?_
  rw [F.owner]
  repeat (first | with_reducible refine wpAny_madeHere_exc F.canon hC ?_ | with_reducible refine wpAny_loadPart_at hC ?_ | (with_reducible refine wpAny_isSubtype_exc hC ?_; first | rw [hcB] | rw [hcA] | rw [hcN]) | wp_step)
  show R _ _
  rw [Heap.size_push]
  exact hq
theorem exc_check_new {rest : List Value} {Q : Unit → Shared → Prop} (hC : h.get? 58 = some clsM)
    (hq : Q () ⟨h, g, d, t, os⟩) : wpAny (MW w) A (checkBuiltinCall "Exception.__new__" ⟨.ref 58 :: rest, []⟩) Q E ⟨h, g, d, t, os⟩ := by
  have F := excB
  have hcont : (Value.ref 58 :: bmM).contains (.type "Exception") = true := by decide +kernel
  have hstar := F.noStar
  simp only [checkBuiltinCall, F.newKind, F.newSplit, F.newRow]
  repeat (first | refine wpAny_loadPart_at hC ?_ | (refine wpAny_isSubtype_exc hC ?_; rw [hcont]) | refine wpAny_staticBase_exc hC ?_ | refine wpAny_madeBy_exc hC ?_ | simp only [bne_self_eq_false, Bool.false_eq_true, if_false] | wp_step)
  exact hq
theorem exc_type_call {rest : List Value} {Q : Fin → Shared → Prop} (X : (K w.params).In h) (hrest : rest.length ≤ sizeLine)
    (hq : codeAny (MW w) A (.call (.ref 55) ⟨.ref (h.objs.size + 1) :: rest, []⟩)
      (fun r s' => match r with | .ok (.ret v) => v = .none ∧ Q (.done (.ret (.ref (h.objs.size + 1)))) s' | .ok _ => False | .error e => E e s')
      ⟨(h.push (tupO rest)).push (excO h), g, d, t, os⟩) :
    wpAny (MW w) A (Builtin.«type.__call__» ⟨.ref 58 :: rest, []⟩) Q E ⟨h, g, d, t, os⟩ := by
  have F := excB
  have hC : h.get? 58 = some clsM := X _ _ (K58 _)
  repeat (first | with_reducible refine wpAny_loadPart_at hC ?_ | with_reducible refine wpAny_madeBy_exc hC ?_ | wp_step)
  refine codeAny_call_builtin_code (Code.quiet_builtin _ F.quiet) (exc_check_new hC ?_)
  refine exc_new hC ?_ hrest
  show wpAny _ _ _ _ _ _
  have kp : ∀ b o, h.get? b = some o → ((h.push (tupO rest)).push (excO h)).get? b = some o := fun b o e => Heap.get?_push_of_some _ (Heap.get?_push_of_some _ e)
  have hC₁ := kp _ _ hC
  have X₁ := X.keeps kp
  have hget : ((h.push (tupO rest)).push (excO h)).get? (h.objs.size + 1) = some (excO h) := by heap_get
  have hcC : (Value.ref 58 :: bmM).contains (.ref 58) = true := by decide +kernel
  unfold isInstance
  repeat (first | with_reducible refine wpAny_loadPart_at hget ?_ | (with_reducible refine wpAny_isSubtype_exc hC₁ ?_; rw [hcC]) | wp_step)
  refine (looks_findIn (K := K w.params) X₁ (t := .ref 58) (name := "__init__") (r := some (.ref 55)) (by kernel_rfl)).at ?_
  dsimp only
  refine wpAny_holding (wpAny_bind ((bind_fn X₁ _ (by kernel_rfl)).at (wpAny_bind (wpAny_call (codeAny_mono hq fun r s' z => ?_)))))
  rcases r with e | (v | _ | _ | _) <;> first | exact z | exact z.elim | skip
  obtain ⟨rfl, z⟩ := z
  refine wpAny_pure ?_
  exact wpAny_pure z
theorem exc_call {rest : List Value} {Q : Value → Shared → Prop} (X : (K w.params).In h) (hrest : rest.length ≤ sizeLine)
    (hq : codeAny (MW w) (A.under (.builtin "type.__call__" ⟨.ref 58 :: rest, []⟩)) (.call (.ref 55) ⟨.ref (h.objs.size + 1) :: rest, []⟩)
      (fun r s' => match r with | .ok (.ret v) => v = .none ∧ Q (.ref (h.objs.size + 1)) s' | .ok _ => False | .error e => E e s')
      ⟨(h.push (tupO rest)).push (excO h), g, d, t, os⟩) :
    wpAny (MW w) A (call (.ref 58) rest) Q E ⟨h, g, d, t, os⟩ := by
  have f1 := tc_lookup
  have f2 := tc_bind (.ref 58)
  have hC : h.get? 58 = some clsM := X _ _ (K58 _)
  have hT : (⟨h, g, d, t, os⟩ : Shared).TypeIs (.ref 58) "type" := ⟨_, hC, rfl⟩
  refine wpAny_call (codeAny_of_tree ?_)
  show wpAny _ _ (callAny (.ref 58) _) _ _ _
  repeat (any_goals (first | assumption | with_reducible refine wpAny_loadPart_at hC ?_ | wp_step))
  refine ⟨rfl, ?_⟩
  refine codeAny_call_builtin_at (Code.quiet_builtin _ (by decide +kernel)) entry_typeCall (wpAny_check_type_call_sub hC (exc_type_call X hrest ?_))
  exact hq
end
-- Ky
section
open Builtin Builtin.ObjectAttr
section
variable {w : World} {A : Around} {E : Value → Shared → Prop} {s : Shared} {R : Result → Shared → Prop} {e : Addr}
theorem refuse58 (self : Value) : refuseLoop self "__setattr__" (.ref 58 :: bmM) = pure () := by
  rw [refuseLoop_ref, refuseLoop_ref]
  kernel_rfl
theorem osa58 {ox : Obj} {od : Option Obj} {name : PySem.Str} {tk : Tok} {v : Value} (X : (K w.params).In s.heap) (I : InstAt s.heap e ox 58 od) (ht : takerIn (K w.params) 58 name = some none)
    (h : ∀ b, wpAny (MW w) A.in1 (storeInOwnDict (.ref e) (.ref 58) (.str name tk) name v b)
      (fun fin s' => match fin with | .done f => R (.ok f) s' | .again c' => c'.quiet = true ∧ codeAny (MW w) A c' R s') (fun e s' => R (.error e) s') s) :
    codeAny (MW w) A (.call (.builtin "object.__setattr__") ⟨[.ref e, .str name tk, v], []⟩) R s := by
  have SF := PySem.F.store_object
  have hc : clsIn (K w.params) 58 = some (match clsM.data with | .cls cd => cd | _ => default) := by kernel_rfl
  have sub : Looks (MW w) s.heap (isInstance (.ref e) (.type "object")) true := I.type.andThen (looks_mroIn X (by kernel_rfl))
  refine codeAny_call_builtin SF.slot.plain SF.entry (@check_slot (MW w) _ _ s "object.__setattr__" "object" "__setattr__" (.ref e) [.str name tk, v] [] _ SF.kind SF.split sub (SF.args (.ref e) (.str name tk) v) ?_)
  obtain ⟨attr, ha, hr⟩ := Option.bind_eq_some_iff.mp ht
  have hm : Looks (MW w) s.heap (mroOf (.ref 58)) (.ref 58 :: bmM) := (looks_clsIn X hc).andThen .now
  have L3 : Looks (MW w) s.heap (storeTaker? attr) none := by
    cases attr with
    | none => exact .now
    | some a =>
      obtain ⟨b, hb, hr'⟩ := Option.map_eq_some_iff.mp hr
      refine (looks_takesIn X hb).andThen ?_
      cases b
      · exact .now
      · cases hr'
  rw [osa_eq, refuse_eq]
  refine wpAny_bind (wpAny_bind (I.type.here (wpAny_bind (hm.here ?_))))
  rw [refuse58]
  refine wpAny_pure (wpAny_bind (I.type.here (wpAny_bind ((looks_findIn X ha).here (wpAny_bind (L3.here ?_))))))
  exact h _
theorem store_in {d : Addr} {od : Obj} {name : PySem.Str} {tk : Tok} {v : Value} {es : List DictEntry} {n : Nat} {Q : PySem.Fin → Shared → Prop} (hd : s.heap.get? d = some od) (hl : (lookIn name od).isSome = true)
    (e' : (Obj.putName name (PyData.keyHash w.params name) (.str name s.toks) v od).data = .dict es.toArray n) (hz : es.length ≤ 1000)
    (h : Q (.done (.ret .none)) { s with heap := s.heap.update d (Obj.putName name (PyData.keyHash w.params name) (.str name s.toks) v), toks := s.toks + 1 }) :
    wpAny (MW w) A (storeInDict d (.str name tk) name v) Q E s := by
  have D' : (s.heap.update d (Obj.putName name (PyData.keyHash w.params name) (.str name s.toks) v)).get? d = some _ :=
    Heap.get?_update_self (Obj.putName name (PyData.keyHash w.params name) (.str name s.toks) v) hd (by
      generalize Obj.putName name (PyData.keyHash w.params name) (.str name s.toks) v od = od' at e'
      obtain ⟨_, _, dd, _⟩ := od'; cases e'; rfl)
  unfold storeInDict
  refine wpAny_bind (wpAny_pure (wpAny_bind ?_))
  unfold nsSet
  refine wpAny_bind (wpAny_bind (wpAny_askSetting (wpAny_pure (wpAny_bind (wpAny_mkText (wpAny_bind (wpAny_loadPart hd ?_)))))))
  unfold lookIn at hl
  split at hl
  · rename_i es₀ n₀ q
    rw [q]
    dsimp only
    have c : (!es₀.any (·.key.isStr name) && es₀.any (·.refKey)) = false := by
      rw [← Array.any_toList, ← Array.any_toList]
      split at hl
      · rename_i en he
        rw [List.any_eq_true.mpr ⟨en, List.mem_of_find?_eq_some he, List.find?_some he⟩]; rfl
      · split at hl
        · cases hl
        · rename_i z; rw [Bool.not_eq_true] at z; rw [z, Bool.and_false]
    rw [aRefKeyMayBeTheName_at, c]
    refine wpAny_updatePart hd ?_
    refine wpAny_bind (wpAny_lookBehind D' (by rw [e']; exact pastItsLine_dict (by rw [List.size_toArray, sizeLine_eq]; lia)) ?_)
    exact wpAny_pure h
  · cases hl
end
end
-- Kz
section
open Builtin Builtin.ObjectAttr
theorem fillK1 : (fun (_ : OpenLaw) (_ : Params → Frag) => True) PySem.Challenge.rw_nm0124_01 K := by k_fill; trivial
noncomputable abbrev exO (dd : Option Addr) (v0 : Value) : Obj := { cls := .ref 58, dict := dd, data := .fields #[v0, .none, .none, .none, .bool false, .none] }
section
variable {w : World} {mean : ExcName → Option Value} {mg mb : PySem.Str → Option Value} {A : Around} {E : Value → Shared → Prop} {s : Shared} {R : Result → Shared → Prop} {e L : Addr} {g base : Heap} {outer : List Env} {m : PySem.Str → Option Value} {pre post : List (Addr × Obj)}
theorem News.push' {o : Obj} {news : List (Addr × Obj)} (F : Fr g L s.heap m) (N : News g L s.heap news) (hfree : o.isFreed = false) : News g L (s.heap.push o) ((s.heap.objs.size, o) :: news) := N.push F o hfree
theorem xinit {why : Value} {t0 : Addr} {dd : Option Addr} {Q : Value → Shared → Prop} (F : Fr g L s.heap m) (N : News g L s.heap (pre ++ (e, exO dd (.ref t0)) :: post)) (X : (K w.params).In g) (h1 : ∀ p ∈ pre, p.1 ≠ e) (h2 : ∀ p ∈ post, p.1 ≠ e)
    (h : ∀ h' t, Fr g L h' m → News g L h' ((t, tupO [why]) :: (pre ++ (e, exO dd (.ref t)) :: post)) → (∀ p ∈ pre ++ (e, exO dd (.ref t0)) :: post, p.1 < t) → Q .none { s with heap := h' }) :
    wpAny (MW w) A (call (.builtin "Exception.__init__") [.ref e, why]) Q E s := by
  have FB := excB
  have Xs := X.keeps F.keep
  have hC : s.heap.get? 58 = some clsM := Xs _ _ (K58 _)
  have he : s.heap.get? e = some (exO dd (.ref t0)) := (N (e, exO dd (.ref t0)) (by simp)).1
  have hcB : (Value.ref 58 :: bmM).contains (.type "Exception") = true := by decide +kernel
  obtain ⟨hp, g', d, tk, os⟩ := s
  dsimp only at *
  have hshort := FB.noStar
  refine wpAny_call (codeAny_call_builtin FB.init.plain FB.initEntry ?_)
  simp only [checkBuiltinCall, FB.initKind, FB.initSplit, FB.initRow]
  repeat (first | (with_reducible refine wpAny_loadPart_at he ?_) | with_reducible refine wpAny_loadPart_at hC ?_ | (with_reducible refine wpAny_isSubtype_exc hC ?_; rw [hcB]) | wp_step)
  dsimp only
  wp_walk
  have N1 := News.push' (s := ⟨hp, g', d, tk, os⟩) F N (o := tupO [why]) rfl
  have hlt : ∀ p ∈ pre ++ (e, exO dd (.ref t0)) :: post, p.1 < hp.objs.size := fun p hp' => Heap.lt_size (N p hp').1
  obtain ⟨F2, N2⟩ := news_upd (o' := exO dd (.ref hp.objs.size)) (pre := (hp.objs.size, tupO [why]) :: pre) (post := post) (f := Obj.mapFields (fun vs => vs.setIfInBounds 0 (.ref hp.objs.size))) (F.push (tupO [why])) N1
    (fun p hp' => by
      rcases List.mem_cons.mp hp' with rfl | hp'
      · exact Nat.ne_of_gt (hlt (e, exO dd (.ref t0)) (by simp))
      · exact h1 p hp') h2 rfl rfl
  exact h _ hp.objs.size F2 N2 hlt
theorem cls58 : clsIn (K w.params) 58 = some (match clsM.data with | .cls cd => cd | _ => default) := by kernel_rfl
theorem xset0 {name : PySem.Str} {v v0 : Value} {Q : Unit → Shared → Prop} (F : Fr g L s.heap m) (N : News g L s.heap (pre ++ (e, exO none v0) :: post)) (X : (K w.params).In g) (ht : takerIn (K w.params) 58 name = some none) (h1 : ∀ p ∈ pre, p.1 ≠ e) (h2 : ∀ p ∈ post, p.1 ≠ e)
    (h : ∀ h' d tk, Fr g L h' m → News g L h' ((d, dictOf [⟨PyData.keyHash w.params name, .str name tk, v⟩] 1) :: (pre ++ (e, exO (some d) v0) :: post)) → (∀ p ∈ pre ++ (e, exO none v0) :: post, p.1 < d) → Q () { s with heap := h', toks := s.toks + 1 + 1 }) :
    wpAny (MW w) A (setAttr (.ref e) name v) Q E s := by
  have Xs := X.keeps F.keep
  have he : s.heap.get? e = some (exO none v0) := (N (e, exO none v0) (by simp)).1
  have I : InstAt s.heap e (exO none v0) 58 none := ⟨he, rfl, rfl, trivial⟩
  refine set_plain Xs I (by kernel_rfl) (osa58 (s := { s with toks := s.toks + 1 }) Xs I ht fun b => ?_)
  have hlt : ∀ p ∈ pre ++ (e, exO none v0) :: post, p.1 < s.heap.objs.size := fun p hp' => Heap.lt_size (N p hp').1
  obtain ⟨hp, g', dr, tk, os⟩ := s
  dsimp only at *
  have he' := Heap.get?_push_of_some (h := hp) emptyDict he
  have N1 := News.push' (s := ⟨hp, g', dr, tk, os⟩) F N (o := emptyDict) rfl
  obtain ⟨F2, N2⟩ := news_upd (o' := exO (some hp.objs.size) v0) (pre := (hp.objs.size, emptyDict) :: pre) (post := post) (f := fun o => { o with dict := some hp.objs.size }) (F.push emptyDict) N1
    (fun p hp' => by
      rcases List.mem_cons.mp hp' with rfl | hp'
      · exact Nat.ne_of_gt (hlt (e, exO none v0) (by simp))
      · exact h1 p hp') h2 rfl rfl
  have hd : ((hp.push emptyDict).update e fun o => { o with dict := some hp.objs.size }).get? hp.objs.size = some emptyDict := (N2 (hp.objs.size, emptyDict) (by simp)).1
  obtain ⟨F3, N3⟩ := news_upd (d := hp.objs.size) (o' := dictOf [⟨PyData.keyHash w.params name, .str name (tk + 1), v⟩] 1) (pre := []) (post := pre ++ (e, exO (some hp.objs.size) v0) :: post) (f := Obj.putName name (PyData.keyHash w.params name) (.str name (tk + 1)) v) F2 N2
    (fun _ h => nomatch h) (fun p hp' => by
      have : p.1 < hp.objs.size := by
        rcases List.mem_append.mp hp' with q | q
        · exact hlt p (by simp [q])
        · rcases List.mem_cons.mp q with rfl | q
          · exact hlt (e, exO none v0) (by simp)
          · exact hlt p (by simp [q])
      exact Nat.ne_of_lt this) (putName_dict name _ _ v [] 0) rfl
  unfold storeInOwnDict
  refine wpAny_bind (wpAny_pure (wpAny_bind ?_))
  show wpAny _ _ (instanceDict e true) _ _ _
  unfold instanceDict
  refine wpAny_bind (wpAny_loadPart he ?_)
  dsimp only
  refine wpAny_bind ((looks_clsIn Xs cls58).at ?_)
  repeat (first | (with_reducible refine store_in (od := emptyDict) (n := 1) (es := [⟨PyData.keyHash w.params name, .str name (tk + 1), v⟩]) hd rfl ?_ ?_ ?_) | wp_step)
  · rw [show emptyDict = dictOf [] 0 from rfl, putName_dict]; rfl
  · exact Nat.le_add_left _ _
  · exact h _ _ _ F3 N3 hlt
theorem xset1 {name : PySem.Str} {v v0 : Value} {d : Addr} {es : List DictEntry} {n : Nat} {news : List (Addr × Obj)} {news' : Tok → List (Addr × Obj)} {Q : Unit → Shared → Prop} (F : Fr g L s.heap m) (N : News g L s.heap news) (X : (K w.params).In g) (ht : takerIn (K w.params) 58 name = some none)
    (he : (e, exO (some d) v0) ∈ news) (hd : (d, dictOf es n) ∈ news) (hl : (getL name es).isSome = true) (hz : (putL name 0 .none v es).length ≤ 1000) (hlen : ∀ hh kk, (putL name hh kk v es).length = (putL name 0 .none v es).length)
    (U : ∀ tk, Upd d (dictOf es n) (dictOf (putL name (PyData.keyHash w.params name) (.str name tk) v es) (putN name es n)) news (news' tk))
    (h : ∀ h' tk, Fr g L h' m → News g L h' (news' tk) → Q () { s with heap := h', toks := s.toks + 1 + 1 }) :
    wpAny (MW w) A (setAttr (.ref e) name v) Q E s := by
  have Xs := X.keeps F.keep
  have hee := (N _ he).1
  have hl' : (lookIn name (dictOf es n)).isSome = true := hl
  have hdd := (N _ hd).1
  have I : InstAt s.heap e (exO (some d) v0) 58 (some (dictOf es n)) := ⟨hee, rfl, rfl, hdd⟩
  refine set_plain Xs I (by kernel_rfl) (osa58 (s := { s with toks := s.toks + 1 }) Xs I ht fun b => ?_)
  obtain ⟨pre, post, rfl, e2, h1, h2⟩ := (U (s.toks + 1)).split
  obtain ⟨F3, N3⟩ := news_upd (d := d) (o' := dictOf (putL name (PyData.keyHash w.params name) (.str name (s.toks + 1)) v es) (putN name es n)) (pre := pre) (post := post) (f := Obj.putName name (PyData.keyHash w.params name) (.str name (s.toks + 1)) v) F N h1 h2 (putName_dict name _ _ v es n) rfl
  rw [← e2] at N3
  obtain ⟨hp, g', dr, tk, os⟩ := s
  dsimp only at *
  unfold storeInOwnDict
  refine wpAny_bind (wpAny_pure (wpAny_bind ?_))
  show wpAny _ _ (instanceDict e true) _ _ _
  unfold instanceDict
  refine wpAny_bind (wpAny_loadPart hee ?_)
  dsimp only
  refine wpAny_bind ((looks_clsIn Xs cls58).at ?_)
  repeat (first | (with_reducible refine store_in (od := dictOf es n) (n := putN name es n) (es := putL name (PyData.keyHash w.params name) (.str name (tk + 1)) v es) hdd hl' ?_ ?_ ?_) | wp_step)
  · rw [putName_dict]
  · rw [hlen]; exact hz
  · exact h _ _ F3 N3
end
section
variable {w : World} {mean : ExcName → Option Value} {mg mb : PySem.Str → Option Value} {A : Around} {base g : Heap} {outer : List Env} {s : Shared} {R : Result → Shared → Prop}
theorem init35 {e t0 : Addr} {why : Value} (a : Amb w mean mg mb A base outer g) (o : Over g s [(e, exO none (.ref t0))]) (hr : Rm A 5)
    (hret : ∀ h' d t kt tk, Over g { s with heap := h', toks := tk } [(d, dictOf [⟨PyData.keyHash w.params (PySem.Str.ofString "why"), .str (PySem.Str.ofString "why") kt, why⟩] 1), (t, tupO [why]), (e, exO (some d) (.ref t))] → e < t → t < d → R (.ok (.ret .none)) { s with heap := h', toks := tk })
    : codeAny (MW w) A (.call (.ref 35) ⟨[.ref e, why], []⟩) R s := by
  have X := a.X
  have T := a.T
  have B := a.B
  refine' enter (binds := [(PySem.Str.ofString "self", .ref e), (PySem.Str.ofString "why", why)]) a o ?k6 ?k7 ?k8 ?k9 ?kB ?_ ?c2 ?c3 ?c4 ?c5
  (case k6 => k_is)
  (case k7 => k_is)
  (case k8 => exact hr.depth)
  (case k9 => exact BindsTo.of_eq rfl)
  (case kB => exact locs rfl)
  (case c2 => exact rfl)
  (case c3 => exact rfl)
  (case c4 => exact rfl)
  (case c5 => decide)
  intro L F0 tk F N
  dsimp only [ifs, List.reverse, List.reverseAux] at F
  conv in (occs := *) fnBody _ => all_goals whnf
  conv in (occs := *) fnScope _ => all_goals whnf
  k_fold
  k_steps
  refine' method_type (K := K w.params) (T := "Exception") (v := ?vv) F X ?h1 ?h2 ?h3 ?h4 ?_
  (case vv => exact .builtin "Exception.__init__")
  (case h1 => kernel_rfl)
  (case h2 => decide +kernel)
  (case h3 => kernel_rfl)
  (case h4 => kernel_rfl)
  k_steps
  refine xinit (pre := []) (post := []) F N X (fun _ h => nomatch h) (fun _ h => nomatch h) fun h1 t F1 N1 l1 => ?_
  clear F N
  have le : e < t := l1 (e, exO none (.ref t0)) (by simp)
  k_steps
  refine xset0 (pre := [(t, tupO [why])]) (post := []) F1 N1 X (by kernel_rfl) (by intro p hp; rcases List.mem_cons.mp hp with rfl | hp; exact Nat.ne_of_gt le; nomatch hp) (fun _ h => nomatch h) fun h2 d kt F2 N2 l2 => ?_
  clear F1 N1
  have ld : t < d := l2 (t, tupO [why]) (by simp)
  k_steps
  exact hret _ _ _ _ _ (Over.of F2 N2) le ld
theorem init55 {e t0 : Addr} {why att : Value} (a : Amb w mean mg mb A base outer g) (o : Over g s [(e, exO none (.ref t0))]) (hr : Rm A 6)
    (hret : ∀ h' tk own', Over g { s with heap := h', toks := tk } own' → (∃ d t, (e, exO (some d) (.ref t)) ∈ own') → R (.ok (.ret .none)) { s with heap := h', toks := tk })
    : codeAny (MW w) A (.call (.ref 55) ⟨[.ref e, why, att], []⟩) R s := by
  have X := a.X
  have T := a.T
  have B := a.B
  refine' enter (binds := [(PySem.Str.ofString "self", .ref e), (PySem.Str.ofString "why", why), (PySem.Str.ofString "at", att)]) a o ?k6 ?k7 ?k8 ?k9 ?kB ?_ ?c2 ?c3 ?c4 ?c5
  (case k6 => k_is)
  (case k7 => k_is)
  (case k8 => exact hr.depth)
  (case k9 => exact BindsTo.of_eq rfl)
  (case kB => exact locs rfl)
  (case c2 => exact rfl)
  (case c3 => exact rfl)
  (case c4 => exact rfl)
  (case c5 => decide)
  intro L F0 tk F N
  dsimp only [ifs, List.reverse, List.reverseAux] at F
  conv in (occs := *) fnBody _ => all_goals whnf
  conv in (occs := *) fnScope _ => all_goals whnf
  k_fold
  iterate 13 walk1
  have hin : ∀ p ∈ [(e, exO none (.ref t0))], p ∈ [(e, exO none (.ref t0))] := fun _ h => h
  refine wpAny_call (init35 (t0 := t0) (siteA a F N hin rfl) (siteO N hin) hr.deeper fun h1 d t kt tk1 o1 l1 l2 => ?_)
  replace l1 := ltN l1
  replace l2 := ltN l2
  obtain ⟨F1, N1⟩ := site_back F N hin o1 (news' := [(d, dictOf [⟨PyData.keyHash w.params (PySem.Str.ofString "why"), .str (PySem.Str.ofString "why") kt, why⟩] 1), (t, tupO [why]), (e, exO (some d) (.ref t))]) (fun p hp => .inl hp)
  clear F N hin
  k_steps
  dsimp only at F1 N1
  refine xset1 F1 N1 X (by kernel_rfl) (.tail _ (.tail _ (.head _))) (.head _) (by rfl) (by exact Nat.le_of_ble_eq_true rfl) (fun _ _ => rfl) (fun tk => Upd.head (by k_all)) fun h2 tk2 F2 N2 => ?_
  k_steps
  exact hret _ _ _ (Over.of F2 N2) ⟨d, t, by simp⟩
end
end
-- Kr
/-- a Malformed made: all stands, it is new, no traceback yet -/
structure MadeX (h h' : Heap) (e : Addr) : Prop where
  keeps : ∀ b o, h.get? b = some o → h'.get? b = some o
  new : h.get? e = none
  there : ∃ d t, h'.get? e = some (exO (some d) (.ref t))
section
variable {w : World} {mean : ExcName → Option Value} {mg mb : PySem.Str → Option Value} {A : Around} {base g : Heap} {outer : List Env} {s : Shared} {own : List (Addr × Obj)} {E : Value → Shared → Prop}
theorem Amb.under {c : Code} (a : Amb w mean mg mb A base outer g) (hc : c.envs = []) : Amb w mean mg mb (A.under c) base outer g :=
  ⟨⟨by show pushEnvs c.envs A.frames = _; rw [hc]; exact a.B.stack, a.B.stays, a.B.frames⟩, a.X, a.T, a.hh⟩
theorem Rm.make {n : Nat} {vals : List Value} (h : Rm A (n + 1)) : Rm (A.under (.builtin "type.__call__" ⟨.ref 58 :: vals, []⟩)) n := by
  unfold Rm at *
  rw [depth_under_make, units_under_make]
  lia
theorem mk58 {why att : Value} {Q : Value → Shared → Prop} (a : Amb w mean mg mb A base outer s.heap) (hr : Rm A 7)
    (h : ∀ h' e tk, MadeX s.heap h' e → Q (.ref e) { s with heap := h', toks := tk }) :
    wpAny (MW w) A (call (.ref 58) [why, att]) Q E s := by
  obtain ⟨hp, g', dr, tk, os⟩ := s
  refine exc_call a.X (Nat.le_of_ble_eq_true rfl) ?_
  refine init55 (R := fun r s' => match r with | .ok (.ret v) => v = .none ∧ Q (.ref (hp.objs.size + 1)) s' | .ok _ => False | .error e => E e s') (t0 := hp.objs.size) (a.under rfl) ⟨fun b o e => Heap.get?_push_of_some _ (Heap.get?_push_of_some _ e), ?_, ?_⟩ hr.make ?_
  · simp only [Heap.size_push]; lia
  · intro p hp'
    rcases List.mem_cons.mp hp' with rfl | hp'
    · refine ⟨?_, Heap.get?_none_of_le (Nat.le_succ _)⟩
      have := Heap.get?_push_size (h := hp.push (tupO [why, att])) (o := excO hp) rfl
      rw [Heap.size_push] at this
      exact this
    · nomatch hp'
  · intro h' tk' own' o' hin
    obtain ⟨d, t, hm⟩ := hin
    exact ⟨rfl, h h' _ tk' ⟨o'.st, Heap.get?_none_of_le (Nat.le_succ _), d, t, (o'.O _ hm).1⟩⟩
theorem raiseStmt_M {env : Env} {x : Sem Value} {Q : Flow → Shared → Prop} (hh : A.handled = none)
    (h : wpAny (MW w) A x (fun v s₁ => ∃ e d t, v = .ref e ∧ s₁.heap.get? 58 = some clsM ∧ s₁.heap.get? e = some (exO (some d) (.ref t)) ∧ E (.ref e) s₁) E s) :
    wpAny (MW w) A (raiseStmt env (some x) none) Q E s := by
  have hcB : (Value.ref 58 :: bmM).contains (.type "BaseException") = true := by decide +kernel
  unfold raiseStmt
  refine wpAny_bind (wpAny_mono h (fun v s₁ h₁ => ?_) fun _ _ x => x)
  obtain ⟨e, d, t, rfl, hC, he, hE⟩ := h₁
  obtain ⟨hp, g, d, tk, os⟩ := s₁
  repeat (first | with_reducible refine wpAny_loadPart_at he ?_ | with_reducible refine wpAny_loadPart_at hC ?_ | (with_reducible refine wpAny_isSubtype_exc hC ?_; rw [hcB]) | wp_step)
  exact wpAny_raiseNew_none hh hE
end
section
variable {w : World} {mean : ExcName → Option Value} {mg mb : PySem.Str → Option Value} {A : Around} {base g : Heap} {outer : List Env} {s : Shared} {own : List (Addr × Obj)} {E : Value → Shared → Prop}
  {L f : Addr} {m : PySem.Str → Option Value} {news news' own' : List (Addr × Obj)} {qual : PySem.Str} {scope : Scope} {cd : Value}
theorem raise_K {x : PySem.Str} {e₀ : Expr} {rest : List Expr} {np cpos pos : Pos} {Q : Flow → Shared → Prop} (a : Amb w mean mg mb A base outer g) (F : Fr g L s.heap m) (hr : Rm A 8) (hxn : x = PySem.Str.ofString "Malformed")
    (h : wpAny (MW w) (A.deeper (envOf qual scope L f cd)) (spliced (backTo cpos (starEach (e₀ :: rest) (envOf qual scope L f cd))))
      (fun vs s₂ => vs.length = 2 ∧ Fr g L s₂.heap m ∧ ∀ h' e tk, MadeX s₂.heap h' e → E (.ref e) { s₂ with heap := h', toks := tk }) E s)
    (he : starEach (e₀ :: rest) (envOf qual scope L f cd) = (false, eval e₀ (envOf qual scope L f cd)) :: starEach rest (envOf qual scope L f cd))
    (hplain : (backTo cpos (starEach rest (envOf qual scope L f cd))).any (·.1) = false)
    (hk : scope.kind = .function) (hx : (envOf qual scope L f cd).kindOf x = some .globalImplicit) :
    wpAny (MW w) (A.deeper (envOf qual scope L f cd)) (exec (.Raise (some (.Call (.Name x np) (e₀ :: rest) [] cpos)) none pos) (envOf qual scope L f cd)) Q E s := by
  rw [arm_exec_Raise]
  simp only [evalOpt, Option.map]
  refine wpAny_bind (wpAny_standAt (raiseStmt_M a.hh (wpAny_bind ?_)))
  refine wpAny_Call_ofName (name_K (K := K w.params) (v := .ref 58) F a.X (topRead_of a.T) (by subst hxn; kernel_rfl) ?_ hk hx (by subst hxn; decide))
  refine callWith_K (K := K w.params) a.X (by kernel_rfl) (wpAny_mono h (fun vs s₂ h₂ => ?_) fun _ _ y => y) he hplain
  obtain ⟨hl, F₂, hE⟩ := h₂
  refine ⟨a.X.keeps F₂.keep, ?_⟩
  match vs, hl with
  | [why, att], _ =>
  refine mk58 (why := why) (att := att) (siteA (own := []) a F₂ (News.nil) (fun _ h => nomatch h) hk) hr.deeper fun h' e tk mx => ?_
  refine wpAny_bind (wpAny_standAt (wpAny_pure ?_))
  obtain ⟨d, t, ht⟩ := mx.there
  exact ⟨e, d, t, rfl, mx.keeps _ _ ((a.X.keeps F₂.keep) _ _ (K58 _)), ht, hE h' e tk mx⟩
end
-- Ke
/-- an exception in flight over the frames l: what stood in the ground g (but the frames ofr) and the objects own stand -/
noncomputable def Exc (g : Heap) (ofr l : List Env) (e : Addr) (own : List (Addr × Obj)) (h : Heap) : Prop :=
  ∃ Bx : Heap, (∀ b o, g.get? b = some o → b ∉ ofr.filterMap (·.frame) → Bx.get? b = some o) ∧ (∀ p ∈ own, Bx.get? p.1 = some p.2 ∧ g.get? p.1 = none) ∧
    Heap.Flying Bx l e (.ref 58) h ∧ g.UpToSlots h
theorem Exc.sub {g : Heap} {ofr l : List Env} {e : Addr} {own own' : List (Addr × Obj)} {h : Heap} (x : Exc g ofr l e own h) (hs : ∀ p ∈ own', p ∈ own) : Exc g ofr l e own' h :=
  let ⟨Bx, h1, h2, h3, h4⟩ := x
  ⟨Bx, h1, fun p hp => h2 p (hs p hp), h3, h4⟩
section
variable {w : World} {mean : ExcName → Option Value} {mg mb : PySem.Str → Option Value} {A : Around} {base g h : Heap} {outer : List Env} {s s' : Shared} {own news news' own' : List (Addr × Obj)} {E : Value → Shared → Prop}
  {L f e : Addr} {m : PySem.Str → Option Value} {qual : PySem.Str} {scope : Scope} {cd : Value}
theorem frame_out (a : Amb w mean mg mb A base outer g) (N : News g L h news) {p : Addr × Obj} (hp : p ∈ news) : p.1 ∉ (envOf qual scope L f cd :: outer).filterMap (·.frame) := fun q => by
  obtain ⟨env, he, hf⟩ := List.mem_filterMap.mp q
  rcases List.mem_cons.mp he with rfl | he
  · exact (N p hp).2.1 (Option.some.inj hf).symm
  · obtain ⟨o, ho, _⟩ := (a.B.frames.mem (List.mem_filterMap.mpr ⟨env, he, hf⟩)).2
    rw [(N p hp).2.2] at ho; cases ho
theorem leave_first {Q : Unit → Shared → Prop} (a : Amb w mean mg mb A base outer g) (F : Fr g L h m) (N : News g L h news) (mx : MadeX h s'.heap e)
    (hQ : ∀ h', Exc g outer outer e news h' → Q () { s' with heap := h' }) (hk : scope.kind = .function) :
    wpAny (MW w) (A.deeper (envOf qual scope L f cd)) (leaving (envOf qual scope L f cd) (.ref e)) Q E s' := by
  have K' := a.B.push (name := qual) (a := f) (cd := cd) F hk
  obtain ⟨d, t, he⟩ := mx.there
  have hin : ∀ env ∈ (envOf qual scope L f cd :: outer), ∀ b, env.frame = some b → b ∈ (envOf qual scope L f cd :: outer).filterMap (·.frame) := fun env he b hb => List.mem_filterMap.mpr ⟨env, he, hb⟩
  have hfr : s'.heap.FunFrames (hideAll h ((envOf qual scope L f cd :: outer).filterMap (·.frame))) (envOf qual scope L f cd :: outer) := by
    have := funFrames_hide (as := (envOf qual scope L f cd :: outer).filterMap (·.frame)) K'.frames hin
    exact this.of_keeps fun b o e _ => ⟨o, mx.keeps _ _ e, rfl⟩
  refine wpAny_leaving_first (base := hideAll h ((envOf qual scope L f cd :: outer).filterMap (·.frame))) K'.stack hfr rfl he (fun b o q => mx.keeps _ _ (of_hideAll _ q)) ?_ rfl rfl fun h' hL => ?_
  · cases z : (hideAll h ((envOf qual scope L f cd :: outer).filterMap (·.frame))).get? e with
    | none => rfl
    | some o => have := of_hideAll _ z; rw [mx.new] at this; cases this
  obtain ⟨l1, ⟨_, _, l2⟩, l3, l4⟩ := hL
  refine hQ h' ⟨_, fun b o hb hn => hideAll_get _ (F.keep b o hb) fun q => ?_, fun p hp => ⟨hideAll_get _ (N p hp).1 (frame_out a N hp), (N p hp).2.2⟩, ⟨l1, ?_, l2, l3⟩, fun b o hb hnf => l4 b o (mx.keeps _ _ (F.keep b o hb)) hnf⟩
  · have hnL : b ≠ L := Nat.ne_of_lt (Nat.lt_of_lt_of_le (Heap.lt_size hb) F.above)
    obtain ⟨env, he, hf⟩ := List.mem_filterMap.mp q
    rcases List.mem_cons.mp he with rfl | he
    · exact hnL (Option.some.inj hf).symm
    · exact hn (List.mem_filterMap.mpr ⟨env, he, hf⟩)
  · cases z : (hideAll h ((envOf qual scope L f cd :: outer).filterMap (·.frame))).get? e with
    | none => rfl
    | some o => have := of_hideAll _ z; rw [mx.new] at this; cases this
/-- an exception that comes out of a call made in this frame -/
theorem exc_site {e : Addr} {h' : Heap} (a : Amb w mean mg mb A base outer g) (F : Fr g L s.heap m) (N : News g L s.heap news) (hin : ∀ p ∈ own, p ∈ news)
    (x : Exc (gnd s.heap own) (envOf qual scope L f cd :: outer) (envOf qual scope L f cd :: outer) e own' h')
    (hn : ∀ p ∈ news', p ∈ own' ∨ (p ∈ news ∧ p.1 ∉ own.map (·.1))) :
    Exc g outer (envOf qual scope L f cd :: outer) e news' h' ∧ h'.Ns L m := by
  obtain ⟨nL, nm⟩ := site_not F N hin
  have st : g.StaysIn (gnd s.heap own) := fun b ob e => hideAll_get _ (F.keep b ob e) (nm b ob e)
  obtain ⟨Bx, h1, h2, h3, h4⟩ := x
  obtain ⟨oL, es, ep, hL, hLd, hLk, hLf⟩ := F.ns
  refine ⟨⟨Bx, fun b o hb hnf => h1 b o (st b o hb) fun q => ?_, fun p hp => ?_, h3, fun b o hb hnf => h4 b o (st b o hb) hnf⟩, ?_⟩
  · have hnL : b ≠ L := Nat.ne_of_lt (Nat.lt_of_lt_of_le (Heap.lt_size hb) F.above)
    obtain ⟨env, he, hf⟩ := List.mem_filterMap.mp q
    rcases List.mem_cons.mp he with rfl | he
    · exact hnL (Option.some.inj hf).symm
    · exact hnf (List.mem_filterMap.mpr ⟨env, he, hf⟩)
  · rcases hn p hp with q | ⟨q, r⟩
    · refine ⟨(h2 p q).1, ?_⟩
      cases z : g.get? p.1 with
      | none => rfl
      | some o => have := (h2 p q).2; rw [st _ _ z] at this; cases this
    · exact ⟨h1 _ _ (hideAll_get _ (N p q).1 r) (frame_out a N q), (N p q).2.2⟩
  · obtain ⟨sl, hs⟩ := h4 L oL (hideAll_get _ hL nL) fun vs q => by rw [hLd] at q; cases q
    exact ⟨_, es, ep, hs, hLd, hLk, hLf⟩
theorem leave_next {Q : Unit → Shared → Prop} (a : Amb w mean mg mb A base outer g) (x : Exc g outer (envOf qual scope L f cd :: outer) e news s'.heap)
    (hQ : ∀ h', Exc g outer outer e news h' → Q () { s' with heap := h' }) :
    wpAny (MW w) (A.deeper (envOf qual scope L f cd)) (leaving (envOf qual scope L f cd) (.ref e)) Q E s' := by
  obtain ⟨Bx, h1, h2, ⟨f1, f2, f3, f4⟩, h4⟩ := x
  refine wpAny_leaving_next (Around.frames_deeper a.B.stack) f3 rfl f4 f1 f2 fun h' hL => ?_
  obtain ⟨l1, ⟨_, _, l2⟩, l3, l4⟩ := hL
  exact hQ h' ⟨Bx, h1, h2, ⟨l1, f2, l2, l3⟩, fun b o hb hnf => by
    obtain ⟨sl, hs⟩ := h4 b o hb hnf
    obtain ⟨sl2, hs2⟩ := l4 b _ hs hnf
    exact ⟨sl2, hs2⟩⟩
end
-- Kb
section
variable {prog : Program} {w : World} {A : Around} {E : Value → Shared → Prop} {s : Shared} {R : Result → Shared → Prop}
theorem bb_lookup : typeLookup (.type "bytes") "__bytes__" = pure (some (.builtin "bytes.__bytes__")) := by rw [typeLookup_type, builtinLookup_eq_fast]; kernel_rfl
theorem bb_new {b : Array UInt8} {t : Tok} {Q : Value → Shared → Prop} (hR : Q (.bytes b t) s) : codeAny (model prog w) A (.call (.builtin "bytes.__new__") ⟨[.type "bytes", .bytes b t], []⟩) (wants Q E) s := by
  refine codeAny_of_tree ?_
  show wpAny _ A.in1 (do checkBuiltinCall "bytes.__new__" ⟨[.type "bytes", .bytes b t], []⟩; again (.builtin "bytes.__new__" ⟨[.type "bytes", .bytes b t], []⟩)) _ _ s
  refine wpAny_bind (wpAny_of_eq (F.bm_newCall _) (wpAny_pure ⟨plainId_quiet F.bm_plain _, codeAny_builtin F.bm_entry ?_⟩))
  rw [Around.under_plainId F.bm_plain _]
  have hT := PySem.W.typeIs_bytes s b t
  unfold Builtin.«bytes.__new__»
  refine wpAny_bind (wpAny_of_eq (a := true) rfl ?_)
  refine bm_if_false rfl ?_
  refine wpAny_bind (wpAny_of_eq F.bm_sub ?_)
  refine bm_if_false rfl ?_
  refine wpAny_bind (wpAny_of_eq (F.bm_bind _) ?_)
  refine wpAny_bind (wpAny_of_eq (a := ()) rfl ?_)
  refine wpAny_bind (wpAny_of_eq (a := ()) rfl ?_)
  refine bm_if_false rfl ?_
  refine wpAny_bind (wpAny_specialOf hT bb_lookup ?_)
  refine wpAny_bind (wpAny_rule ?_)
  refine wpAny_bind (wpAny_typeOf hT ?_)
  refine bm_if_true rfl ?_
  exact wpAny_pure hR
theorem bytes_of_bytes {b : Array UInt8} {t : Tok} {Q : Value → Shared → Prop} (hQ : Q (.bytes b t) s) : wpAny (model prog w) A (call (.type "bytes") [.bytes b t]) Q E s := by
  refine callType_codes (Q₁ := fun obj s₁ => s₁.TypeIs obj "bytes" ∧ Q obj s₁) F.bm_called (F.bm_typeCall _) F.entry_object_init
    (bb_new ⟨PySem.W.typeIs_bytes _ _ _, hQ⟩) fun obj s₁ h₁ => ?_
  exact ⟨h₁.1, F.args_object_init_2 obj _, object_init_meets F.bm_called.init.lookup F.bm_called.made (by decide) prog w A.in1 _ s₁ ⟨h₁.1, rfl, h₁.2⟩⟩
end
-- Kc
/-- a cursor's dict -/
noncomputable abbrev curD (w : World) (bs : Array UInt8) (i e : Int) (t1 t2 t3 tb ti te : Tok) : Obj :=
  dictOf [⟨PyData.keyHash w.params (PySem.Str.ofString "octets"), .str (PySem.Str.ofString "octets") t1, .bytes bs tb⟩,
    ⟨PyData.keyHash w.params (PySem.Str.ofString "at"), .str (PySem.Str.ofString "at") t2, .int i ti⟩,
    ⟨PyData.keyHash w.params (PySem.Str.ofString "end"), .str (PySem.Str.ofString "end") t3, .int e te⟩] 3
theorem upd_or {g h : Heap} {L : Addr} {news news' : List (Addr × Obj)} {x dx : Addr} {I D D' : Obj} (N : News g L h news) (hx : (x, I) ∈ news) (U : Upd dx D D' news news') :
    ∀ p ∈ news', p ∈ [(x, I), (dx, D')] ∨ (p ∈ news ∧ p.1 ∉ [(x, I), (dx, D)].map (·.1)) := by
  obtain ⟨pre, post, rfl, rfl, h1, h2⟩ := U.split
  have key : ∀ p ∈ pre ++ (dx, D) :: post, p.1 ≠ dx → p ∈ [(x, I), (dx, D')] ∨ (p ∈ pre ++ (dx, D) :: post ∧ p.1 ∉ [(x, I), (dx, D)].map (·.1)) := fun p hp hne => by
    by_cases q : p.1 = x
    · left
      have e1 := (N p hp).1
      rw [q, (N _ hx).1] at e1
      have : p = (x, I) := Prod.ext q (Option.some.inj e1).symm
      rw [this]; exact .head _
    · right
      refine ⟨hp, fun hm => ?_⟩
      simp only [List.map_cons, List.map_nil, List.mem_cons, List.not_mem_nil, or_false] at hm
      exact hm.elim q hne
  intro p hp
  rcases List.mem_append.mp hp with q | q
  · exact key p (List.mem_append_left _ q) (h1 p q)
  · rcases List.mem_cons.mp q with rfl | q
    · exact .inl (.tail _ (.head _))
    · exact key p (List.mem_append_right _ (.tail _ q)) (h2 p q)
theorem same_or {g h : Heap} {L : Addr} {news own : List (Addr × Obj)} (N : News g L h news) (hin : ∀ p ∈ own, p ∈ news) :
    ∀ p ∈ news, p ∈ own ∨ (p ∈ news ∧ p.1 ∉ own.map (·.1)) := fun p hp => by
  by_cases q : p.1 ∈ own.map (·.1)
  · left
    obtain ⟨r, hr, e⟩ := List.mem_map.mp q
    have e1 := (N p hp).1
    rw [← e, (N r (hin r hr)).1] at e1
    have : p = r := Prod.ext e.symm (Option.some.inj e1).symm
    rw [this]; exact hr
  · exact .inr ⟨hp, q⟩
noncomputable abbrev curOwn (w : World) (x dx : Nat) (bs : Array UInt8) (e : Int) (t1 t2 t3 tb te : Tok) (i : Int) (ti : Tok) : List (Addr × Obj) := [(x, instObj 183 dx), (dx, curD w bs i e t1 t2 t3 tb ti te)]
/-- a call over a cursor: R of what comes back and where the cursor stands then; Z where it may raise -/
noncomputable def CurC (w : World) (f : Addr) (args : List Value) (n : Nat) (x dx : Nat) (bs : Array UInt8) (e : Int) (t1 t2 t3 tb te : Tok) (i : Int) (ti : Tok) (R : Value → Int → Tok → Prop) (Z : Prop) : Prop :=
  ∀ {mean : ExcName → Option Value} {mg mb : PySem.Str → Option Value} {A : Around} {base g : Heap} {outer : List Env} {s : Shared} {Q E : Value → Shared → Prop},
    Amb w mean mg mb A base outer g → Over g s (curOwn w x dx bs e t1 t2 t3 tb te i ti) → Rm A n →
    (∀ h' tk' v i' ti', R v i' ti' → Over g { s with heap := h', toks := tk' } (curOwn w x dx bs e t1 t2 t3 tb te i' ti') → Q v { s with heap := h', toks := tk' }) →
    (Z → ∀ h' tk' ex i' ti', Exc g outer outer ex (curOwn w x dx bs e t1 t2 t3 tb te i' ti') h' → E (.ref ex) { s with heap := h', toks := tk' }) →
    wpAny (MW w) A (call (.ref f) args) Q E s
theorem CurC.w {f : Addr} {args : List Value} {n : Nat} {x dx : Nat} {bs : Array UInt8} {e : Int} {t1 t2 t3 tb te : Tok} {i : Int} {ti : Tok} {R : Value → Int → Tok → Prop} {Z : Prop} {w : World}
    {mean : ExcName → Option Value} {mg mb : PySem.Str → Option Value} {A : Around} {base g : Heap} {outer : List Env} {s : Shared} {Q E : Value → Shared → Prop} {L f' : Addr} {m : PySem.Str → Option Value} {news : List (Addr × Obj)} {news' : Int → Tok → List (Addr × Obj)} {qual : PySem.Str} {scope : Scope} {cd : Value}
    (c : CurC w f args n x dx bs e t1 t2 t3 tb te i ti R Z) (a : Amb w mean mg mb A base outer g) (F : Fr g L s.heap m) (N : News g L s.heap news) (hx : (x, instObj 183 dx) ∈ news) (hd : (dx, curD w bs i e t1 t2 t3 tb ti te) ∈ news)
    (U : ∀ i' ti', Upd dx (curD w bs i e t1 t2 t3 tb ti te) (curD w bs i' e t1 t2 t3 tb ti' te) news (news' i' ti')) (hr : Rm A (n + 1))
    (hret : ∀ h' tk' v i' ti', R v i' ti' → Fr g L h' m → News g L h' (news' i' ti') → Q v { s with heap := h', toks := tk' })
    (hexc : Z → ∀ h' tk' ex i' ti', Exc g outer (envOf qual scope L f' cd :: outer) ex (news' i' ti') h' → h'.Ns L m → E (.ref ex) { s with heap := h', toks := tk' })
    (hk : scope.kind = .function := by rfl) :
    wpAny (MW w) (A.deeper (envOf qual scope L f' cd)) (call (.ref f) args) Q E s := by
  have hin : ∀ p ∈ curOwn w x dx bs e t1 t2 t3 tb te i ti, p ∈ news := fun p hp => by
    rcases List.mem_cons.mp hp with rfl | hp
    · exact hx
    · rcases List.mem_cons.mp hp with rfl | hp
      · exact hd
      · nomatch hp
  refine c (siteA a F N hin hk) (siteO N hin) hr.deeper (fun h' tk' v i' ti' r o' => ?_) fun z h' tk' ex i' ti' x' => ?_
  · obtain ⟨F', N'⟩ := site_back F N hin o' (upd_or N hx (U i' ti'))
    exact hret h' tk' v i' ti' r F' N'
  · obtain ⟨y, n'⟩ := exc_site a F N hin x' (upd_or N hx (U i' ti'))
    exact hexc z h' tk' ex i' ti' y n'
theorem CurC.mono {f : Addr} {args : List Value} {n : Nat} {x dx : Nat} {bs : Array UInt8} {e : Int} {t1 t2 t3 tb te : Tok} {i : Int} {ti : Tok} {R R' : Value → Int → Tok → Prop} {Z Z' : Prop} {w : World}
    (c : CurC w f args n x dx bs e t1 t2 t3 tb te i ti R Z) (hR : ∀ v i' ti', R v i' ti' → R' v i' ti') (hZ : Z → Z') : CurC w f args n x dx bs e t1 t2 t3 tb te i ti R' Z' := by
  intro mean mg mb A base g outer s Q E a o hr h1 h2
  exact c a o hr (fun h' tk' v i' ti' r => h1 h' tk' v i' ti' (hR _ _ _ r)) fun z => h2 (hZ z)
theorem clip_in {n : Nat} {i : Int} (h0 : 0 ≤ i) (h1 : i ≤ n) : clipAt n i = i.toNat := by
  unfold clipAt
  (repeat' split) <;> lia
section
variable {w : World} {mean : ExcName → Option Value} {mg mb : PySem.Str → Option Value} {A : Around} {base g : Heap} {outer : List Env} {s : Shared} {Q E : Value → Shared → Prop}
  {x dx : Nat} {bs : Array UInt8} {ks : List Int} {i e : Int} {t1 t2 t3 tb ti te : Tok}
theorem c_left (hlt : dx < x) : CurC w 89 [.ref x] 3 x dx bs e t1 t2 t3 tb te i ti (fun v i' ti' => i' = i ∧ ti' = ti ∧ ∃ t, v = .int (e - i) t) (False) := by
  intro mean mg mb A base g outer s Q E a o hr hret hexc
  obtain ⟨hd, dp, fr, gd, un⟩ := A
  obtain rfl : hd = none := a.hh
  obtain rfl : fr = some outer := a.B.stack
  have X := a.X
  have T := a.T
  have B := a.B
  refine wpAny_call ?_
  refine' enter (binds := [(PySem.Str.ofString "self", .ref x)]) a o ?k6 ?k7 ?k8 ?k9 ?kB ?_ ?c2 ?c3 ?c4 ?c5
  (case k6 => k_is)
  (case k7 => k_is)
  (case k8 => exact hr.depth)
  (case k9 => first | exact BindsTo.of_eq rfl | exact binds_K (a.X.keeps o.st) rfl (by k_is) rfl rfl rfl)
  (case kB => exact locs rfl)
  (case c2 => exact rfl)
  (case c3 => exact rfl)
  (case c4 => exact rfl)
  (case c5 => decide)
  intro L F0 tk F N
  dsimp only [ifs, List.reverse, List.reverseAux] at F
  conv in (occs := *) fnBody _ => all_goals whnf
  conv in (occs := *) fnScope _ => all_goals whnf
  try dsimp only
  k_fold
  k_steps
  exact hret _ _ _ _ _ ⟨rfl, rfl, _, rfl⟩ (Over.of F N)
theorem c_done (hlt : dx < x) : CurC w 96 [.ref x] 3 x dx bs e t1 t2 t3 tb te i ti (fun v i' ti' => i' = i ∧ ti' = ti ∧ v = .bool (decide (e ≤ i))) (False) := by
  intro mean mg mb A base g outer s Q E a o hr hret hexc
  obtain ⟨hd, dp, fr, gd, un⟩ := A
  obtain rfl : hd = none := a.hh
  obtain rfl : fr = some outer := a.B.stack
  have X := a.X
  have T := a.T
  have B := a.B
  refine wpAny_call ?_
  refine' enter (binds := [(PySem.Str.ofString "self", .ref x)]) a o ?k6 ?k7 ?k8 ?k9 ?kB ?_ ?c2 ?c3 ?c4 ?c5
  (case k6 => k_is)
  (case k7 => k_is)
  (case k8 => exact hr.depth)
  (case k9 => first | exact BindsTo.of_eq rfl | exact binds_K (a.X.keeps o.st) rfl (by k_is) rfl rfl rfl)
  (case kB => exact locs rfl)
  (case c2 => exact rfl)
  (case c3 => exact rfl)
  (case c4 => exact rfl)
  (case c5 => decide)
  intro L F0 tk F N
  dsimp only [ifs, List.reverse, List.reverseAux] at F
  conv in (occs := *) fnBody _ => all_goals whnf
  conv in (occs := *) fnScope _ => all_goals whnf
  try dsimp only
  k_fold
  k_steps
  exact hret _ _ _ _ _ ⟨rfl, rfl, rfl⟩ (Over.of F N)
theorem c_peek (hlt : dx < x) (hb : KBw.bInts bs = ks) (h0 : 0 ≤ i) (he : e ≤ ks.length) (hz : ks.length ≤ 1000) : CurC w 103 [.ref x] 9 x dx bs e t1 t2 t3 tb te i ti (fun v i' ti' => i' = i ∧ ti' = ti ∧ i < e ∧ 0 ≤ ks.getD i.toNat 0 ∧ ks.getD i.toNat 0 < 256 ∧ ∃ t, v = .int (ks.getD i.toNat 0) t) (¬ i < e) := by
  intro mean mg mb A base g outer s Q E a o hr hret hexc
  obtain ⟨hd, dp, fr, gd, un⟩ := A
  obtain rfl : hd = none := a.hh
  obtain rfl : fr = some outer := a.B.stack
  have X := a.X
  have T := a.T
  have B := a.B
  refine wpAny_call ?_
  refine' enter (binds := [(PySem.Str.ofString "self", .ref x)]) a o ?k6 ?k7 ?k8 ?k9 ?kB ?_ ?c2 ?c3 ?c4 ?c5
  (case k6 => k_is)
  (case k7 => k_is)
  (case k8 => exact hr.depth)
  (case k9 => first | exact BindsTo.of_eq rfl | exact binds_K (a.X.keeps o.st) rfl (by k_is) rfl rfl rfl)
  (case kB => exact locs rfl)
  (case c2 => exact rfl)
  (case c3 => exact rfl)
  (case c4 => exact rfl)
  (case c5 => decide)
  intro L F0 tk F N
  dsimp only [ifs, List.reverse, List.reverseAux] at F
  conv in (occs := *) fnBody _ => all_goals whnf
  conv in (occs := *) fnScope _ => all_goals whnf
  try dsimp only
  k_fold
  repeat' (first | (k_unfold; (try dsimp only)) | (k_end; wrow_close) | ((fail_if_success fail_if_success with_reducible show wpAny _ _ (leaving _ (Value.ref _)) _ _ _); (first | (k_dflt (refine leave_first (by assumption) (by assumption) (by assumption) (by assumption) (fun h'' x'' => ?_) rfl)) | (k_dflt (refine leave_next (by assumption) (by assumption) fun h'' x'' => ?_)))) | ((fail_if_success fail_if_success with_reducible show _ ∧ _); (refine ⟨rfl, by assumption, fun h' e' tk' mx' => ?_⟩)) | ((fail_if_success fail_if_success with_reducible show wpAny _ _ (exec (Stmt.Raise (some _) none _) _) _ _ _); (k_dflt (refine raise_K (by assumption) (by assumption) (Rm.le (by assumption) (by decide)) rfl ?_ rfl rfl rfl rfl))) | walk1 | (dsimp only; (first | ((fail_if_success fail_if_success with_reducible show wpAny _ _ (leaving _ (Value.ref _)) _ _ _); (first | (k_dflt (refine leave_first (by assumption) (by assumption) (by assumption) (by assumption) (fun h'' x'' => ?_) rfl)) | (k_dflt (refine leave_next (by assumption) (by assumption) fun h'' x'' => ?_)))) | ((fail_if_success fail_if_success with_reducible show _ ∧ _); (refine ⟨rfl, by assumption, fun h' e' tk' mx' => ?_⟩)) | ((fail_if_success fail_if_success with_reducible show wpAny _ _ (exec (Stmt.Raise (some _) none _) _) _ _ _); (k_dflt (refine raise_K (by assumption) (by assumption) (Rm.le (by assumption) (by decide)) rfl ?_ rfl rfl rfl rfl))) | walk1)) | (leave1; (try dsimp only)) | fail "no step")
  · exact hexc (by lia) _ _ _ _ _ (by assumption)
  · exact hret _ _ _ _ _ ⟨rfl, rfl, by lia, by assumption, by assumption, _, rfl⟩ (Over.of (by assumption) (by assumption))
theorem w_left {Q E : Value → Shared → Prop} {L f' : Addr} {m : PySem.Str → Option Value} {news : List (Addr × Obj)} {news' : Int → Tok → List (Addr × Obj)} {qual : PySem.Str} {scope : Scope} {cd : Value}
    (a : Amb w mean mg mb A base outer g) (F : Fr g L s.heap m) (N : News g L s.heap news) (hx : (x, instObj 183 dx) ∈ news) (hd : (dx, curD w bs i e t1 t2 t3 tb ti te) ∈ news)
    (U : ∀ i' ti', Upd dx (curD w bs i e t1 t2 t3 tb ti te) (curD w bs i' e t1 t2 t3 tb ti' te) news (news' i' ti')) (hlt : dx < x) (hr : Rm A 4)
    (hret : ∀ h' tk' t, Fr g L h' m → News g L h' (news' i ti) → Q (.int (e - i) t) { s with heap := h', toks := tk' })
    (hexc : False → ∀ h' tk' ex i' ti', Exc g outer (envOf qual scope L f' cd :: outer) ex (news' i' ti') h' → h'.Ns L m → E (.ref ex) { s with heap := h', toks := tk' })
    (hk : scope.kind = .function) : wpAny (MW w) (A.deeper (envOf qual scope L f' cd)) (call (.ref 89) [.ref x]) Q E s :=
  CurC.w (c_left hlt) a F N hx hd U hr (fun h' tk' v i' ti' r F' N' => by obtain ⟨rfl, rfl, t, rfl⟩ := r; exact hret _ _ _ F' N') hexc hk
theorem w_done {Q E : Value → Shared → Prop} {L f' : Addr} {m : PySem.Str → Option Value} {news : List (Addr × Obj)} {news' : Int → Tok → List (Addr × Obj)} {qual : PySem.Str} {scope : Scope} {cd : Value}
    (a : Amb w mean mg mb A base outer g) (F : Fr g L s.heap m) (N : News g L s.heap news) (hx : (x, instObj 183 dx) ∈ news) (hd : (dx, curD w bs i e t1 t2 t3 tb ti te) ∈ news)
    (U : ∀ i' ti', Upd dx (curD w bs i e t1 t2 t3 tb ti te) (curD w bs i' e t1 t2 t3 tb ti' te) news (news' i' ti')) (hlt : dx < x) (hr : Rm A 4)
    (hret : ∀ h' tk', Fr g L h' m → News g L h' (news' i ti) → Q (.bool (decide (e ≤ i))) { s with heap := h', toks := tk' })
    (hexc : False → ∀ h' tk' ex i' ti', Exc g outer (envOf qual scope L f' cd :: outer) ex (news' i' ti') h' → h'.Ns L m → E (.ref ex) { s with heap := h', toks := tk' })
    (hk : scope.kind = .function) : wpAny (MW w) (A.deeper (envOf qual scope L f' cd)) (call (.ref 96) [.ref x]) Q E s :=
  CurC.w (c_done hlt) a F N hx hd U hr (fun h' tk' v i' ti' r F' N' => by obtain ⟨rfl, rfl, rfl⟩ := r; exact hret _ _ F' N') hexc hk
theorem w_peek {Q E : Value → Shared → Prop} {L f' : Addr} {m : PySem.Str → Option Value} {news : List (Addr × Obj)} {news' : Int → Tok → List (Addr × Obj)} {qual : PySem.Str} {scope : Scope} {cd : Value}
    (a : Amb w mean mg mb A base outer g) (F : Fr g L s.heap m) (N : News g L s.heap news) (hx : (x, instObj 183 dx) ∈ news) (hd : (dx, curD w bs i e t1 t2 t3 tb ti te) ∈ news)
    (U : ∀ i' ti', Upd dx (curD w bs i e t1 t2 t3 tb ti te) (curD w bs i' e t1 t2 t3 tb ti' te) news (news' i' ti')) (hlt : dx < x) (hb : KBw.bInts bs = ks) (h0 : 0 ≤ i) (he : e ≤ ks.length) (hz : ks.length ≤ 1000) (hr : Rm A 10)
    (hret : i < e → 0 ≤ ks.getD i.toNat 0 → ks.getD i.toNat 0 < 256 → ∀ h' tk' t, Fr g L h' m → News g L h' (news' i ti) → Q (.int (ks.getD i.toNat 0) t) { s with heap := h', toks := tk' })
    (hexc : ¬ i < e → ∀ h' tk' ex i' ti', Exc g outer (envOf qual scope L f' cd :: outer) ex (news' i' ti') h' → h'.Ns L m → E (.ref ex) { s with heap := h', toks := tk' })
    (hk : scope.kind = .function) : wpAny (MW w) (A.deeper (envOf qual scope L f' cd)) (call (.ref 103) [.ref x]) Q E s :=
  CurC.w (c_peek hlt hb h0 he hz) a F N hx hd U hr (fun h' tk' v i' ti' r F' N' => by obtain ⟨rfl, rfl, h1, h2, h3, t, rfl⟩ := r; exact hret h1 h2 h3 _ _ _ F' N') hexc hk
theorem c_octet (hlt : dx < x) (hb : KBw.bInts bs = ks) (h0 : 0 ≤ i) (he : e ≤ ks.length) (hz : ks.length ≤ 1000) : CurC w 110 [.ref x] 10 x dx bs e t1 t2 t3 tb te i ti (fun v i' ti' => i' = i + 1 ∧ i < e ∧ 0 ≤ ks.getD i.toNat 0 ∧ ks.getD i.toNat 0 < 256 ∧ ∃ t, v = .int (ks.getD i.toNat 0) t) (¬ i < e) := by
  intro mean mg mb A base g outer s Q E a o hr hret hexc
  obtain ⟨hd, dp, fr, gd, un⟩ := A
  obtain rfl : hd = none := a.hh
  obtain rfl : fr = some outer := a.B.stack
  have X := a.X
  have T := a.T
  have B := a.B
  refine wpAny_call ?_
  refine' enter (binds := [(PySem.Str.ofString "self", .ref x)]) a o ?k6 ?k7 ?k8 ?k9 ?kB ?_ ?c2 ?c3 ?c4 ?c5
  (case k6 => k_is)
  (case k7 => k_is)
  (case k8 => exact hr.depth)
  (case k9 => first | exact BindsTo.of_eq rfl | exact binds_K (a.X.keeps o.st) rfl (by k_is) rfl rfl rfl)
  (case kB => exact locs rfl)
  (case c2 => exact rfl)
  (case c3 => exact rfl)
  (case c4 => exact rfl)
  (case c5 => decide)
  intro L F0 tk F N
  dsimp only [ifs, List.reverse, List.reverseAux] at F
  conv in (occs := *) fnBody _ => all_goals whnf
  conv in (occs := *) fnScope _ => all_goals whnf
  try dsimp only
  k_fold
  repeat' (first | (k_unfold; (try dsimp only)) | (k_end; wrow_close) | ((fail_if_success fail_if_success with_reducible show wpAny _ _ (call (Value.ref _) _ _) _ _ _); (k_dflt (refine w_peek (ks := ks) (by assumption) (by assumption) (by assumption) (by k_mem) (by k_mem) (fun _ _ => by k_upd) (by assumption) (by assumption) (by first | assumption | lia) (by first | assumption | lia) (by first | assumption | lia) (Rm.le (by assumption) (by decide)) (fun hi' lo' hi2' h' tk' t' F' N' => ?_) (fun z' h' tk' ex' i' ti' x' n' => ?_) rfl))) | ((fail_if_success fail_if_success with_reducible show wpAny _ _ (leaving _ (Value.ref _)) _ _ _); (first | (k_dflt (refine leave_first (by assumption) (by assumption) (by assumption) (by assumption) (fun h'' x'' => ?_) rfl)) | (k_dflt (refine leave_next (by assumption) (by assumption) fun h'' x'' => ?_)))) | walk1 | (dsimp only; (first | ((fail_if_success fail_if_success with_reducible show wpAny _ _ (call (Value.ref _) _ _) _ _ _); (k_dflt (refine w_peek (ks := ks) (by assumption) (by assumption) (by assumption) (by k_mem) (by k_mem) (fun _ _ => by k_upd) (by assumption) (by assumption) (by first | assumption | lia) (by first | assumption | lia) (by first | assumption | lia) (Rm.le (by assumption) (by decide)) (fun hi' lo' hi2' h' tk' t' F' N' => ?_) (fun z' h' tk' ex' i' ti' x' n' => ?_) rfl))) | ((fail_if_success fail_if_success with_reducible show wpAny _ _ (leaving _ (Value.ref _)) _ _ _); (first | (k_dflt (refine leave_first (by assumption) (by assumption) (by assumption) (by assumption) (fun h'' x'' => ?_) rfl)) | (k_dflt (refine leave_next (by assumption) (by assumption) fun h'' x'' => ?_)))) | walk1)) | (leave1; (try dsimp only)) | fail "no step")
  · exact hret _ _ _ _ _ ⟨rfl, by assumption, by assumption, by assumption, _, rfl⟩ (Over.of (by assumption) (by assumption))
  · exact hexc (by assumption) _ _ _ _ _ (by assumption)
theorem w_octet {Q E : Value → Shared → Prop} {L f' : Addr} {m : PySem.Str → Option Value} {news : List (Addr × Obj)} {news' : Int → Tok → List (Addr × Obj)} {qual : PySem.Str} {scope : Scope} {cd : Value}
    (a : Amb w mean mg mb A base outer g) (F : Fr g L s.heap m) (N : News g L s.heap news) (hx : (x, instObj 183 dx) ∈ news) (hd : (dx, curD w bs i e t1 t2 t3 tb ti te) ∈ news)
    (U : ∀ i' ti', Upd dx (curD w bs i e t1 t2 t3 tb ti te) (curD w bs i' e t1 t2 t3 tb ti' te) news (news' i' ti')) (hlt : dx < x) (hb : KBw.bInts bs = ks) (h0 : 0 ≤ i) (he : e ≤ ks.length) (hz : ks.length ≤ 1000) (hr : Rm A 11)
    (hret : i < e → 0 ≤ ks.getD i.toNat 0 → ks.getD i.toNat 0 < 256 → ∀ h' tk' t ti', Fr g L h' m → News g L h' (news' (i + 1) ti') → Q (.int (ks.getD i.toNat 0) t) { s with heap := h', toks := tk' })
    (hexc : ¬ i < e → ∀ h' tk' ex i' ti', Exc g outer (envOf qual scope L f' cd :: outer) ex (news' i' ti') h' → h'.Ns L m → E (.ref ex) { s with heap := h', toks := tk' })
    (hk : scope.kind = .function) : wpAny (MW w) (A.deeper (envOf qual scope L f' cd)) (call (.ref 110) [.ref x]) Q E s :=
  CurC.w (c_octet hlt hb h0 he hz) a F N hx hd U hr (fun h' tk' v i' ti' r F' N' => by obtain ⟨rfl, h1, h2, h3, t, rfl⟩ := r; exact hret h1 h2 h3 _ _ _ _ F' N') hexc hk
theorem c_take (hlt : dx < x) (hb : KBw.bInts bs = ks) (h0 : 0 ≤ i) (he : e ≤ ks.length) (hz : ks.length ≤ 1000) {many : Int} {tm : Tok} (hm : 0 ≤ many) : CurC w 117 [.ref x, .int many tm] 9 x dx bs e t1 t2 t3 tb te i ti (fun v i' ti' => i' = i + many ∧ many ≤ e - i ∧ ∃ b t, v = .bytes b t ∧ KBw.bInts b = (ks.drop i.toNat).take many.toNat) (e - i < many) := by
  intro mean mg mb A base g outer s Q E a o hr hret hexc
  obtain ⟨hd, dp, fr, gd, un⟩ := A
  obtain rfl : hd = none := a.hh
  obtain rfl : fr = some outer := a.B.stack
  have X := a.X
  have T := a.T
  have B := a.B
  refine wpAny_call ?_
  refine' enter (binds := [(PySem.Str.ofString "self", .ref x), (PySem.Str.ofString "many", .int many tm)]) a o ?k6 ?k7 ?k8 ?k9 ?kB ?_ ?c2 ?c3 ?c4 ?c5
  (case k6 => k_is)
  (case k7 => k_is)
  (case k8 => exact hr.depth)
  (case k9 => first | exact BindsTo.of_eq rfl | exact binds_K (a.X.keeps o.st) rfl (by k_is) rfl rfl rfl)
  (case kB => exact locs rfl)
  (case c2 => exact rfl)
  (case c3 => exact rfl)
  (case c4 => exact rfl)
  (case c5 => decide)
  intro L F0 tk F N
  dsimp only [ifs, List.reverse, List.reverseAux] at F
  conv in (occs := *) fnBody _ => all_goals whnf
  conv in (occs := *) fnScope _ => all_goals whnf
  try dsimp only
  k_fold
  repeat' (first | (k_unfold; (try dsimp only)) | (k_end; wrow_close) | ((fail_if_success fail_if_success with_reducible show wpAny _ _ (call (Value.ref _) _ _) _ _ _); (k_dflt (refine w_left (by assumption) (by assumption) (by assumption) (by k_mem) (by k_mem) (fun _ _ => by k_upd) (by assumption) (Rm.le (by assumption) (by decide)) (fun h' tk' t' F' N' => ?_) (fun z' => absurd z' (fun h => h)) rfl); (try dsimp only at F' N'); try k_sweep)) | ((fail_if_success fail_if_success with_reducible show wpAny _ _ (call (Value.type "bytes") _ _) _ _ _); ((with_reducible show wpAny _ _ (call (Value.type _) [Value.bytes _ _]) _ _ _); k_dflt (refine bytes_of_bytes ?_))) | ((fail_if_success fail_if_success with_reducible show wpAny _ _ (leaving _ (Value.ref _)) _ _ _); (first | (k_dflt (refine leave_first (by assumption) (by assumption) (by assumption) (by assumption) (fun h'' x'' => ?_) rfl)) | (k_dflt (refine leave_next (by assumption) (by assumption) fun h'' x'' => ?_)))) | ((fail_if_success fail_if_success with_reducible show _ ∧ _); (refine ⟨rfl, by assumption, fun h' e' tk' mx' => ?_⟩)) | ((fail_if_success fail_if_success with_reducible show wpAny _ _ (exec (Stmt.Raise (some _) none _) _) _ _ _); (k_dflt (refine raise_K (by assumption) (by assumption) (Rm.le (by assumption) (by decide)) rfl ?_ rfl rfl rfl rfl))) | walk1 | (dsimp only; (first | ((fail_if_success fail_if_success with_reducible show wpAny _ _ (call (Value.ref _) _ _) _ _ _); (k_dflt (refine w_left (by assumption) (by assumption) (by assumption) (by k_mem) (by k_mem) (fun _ _ => by k_upd) (by assumption) (Rm.le (by assumption) (by decide)) (fun h' tk' t' F' N' => ?_) (fun z' => absurd z' (fun h => h)) rfl); (try dsimp only at F' N'); try k_sweep)) | ((fail_if_success fail_if_success with_reducible show wpAny _ _ (call (Value.type "bytes") _ _) _ _ _); ((with_reducible show wpAny _ _ (call (Value.type _) [Value.bytes _ _]) _ _ _); k_dflt (refine bytes_of_bytes ?_))) | ((fail_if_success fail_if_success with_reducible show wpAny _ _ (leaving _ (Value.ref _)) _ _ _); (first | (k_dflt (refine leave_first (by assumption) (by assumption) (by assumption) (by assumption) (fun h'' x'' => ?_) rfl)) | (k_dflt (refine leave_next (by assumption) (by assumption) fun h'' x'' => ?_)))) | ((fail_if_success fail_if_success with_reducible show _ ∧ _); (refine ⟨rfl, by assumption, fun h' e' tk' mx' => ?_⟩)) | ((fail_if_success fail_if_success with_reducible show wpAny _ _ (exec (Stmt.Raise (some _) none _) _) _ _ _); (k_dflt (refine raise_K (by assumption) (by assumption) (Rm.le (by assumption) (by decide)) rfl ?_ rfl rfl rfl rfl))) | walk1)) | (leave1; (try dsimp only)) | fail "no step")
  · exact hexc (by lia) _ _ _ _ _ (by assumption)
  · refine hret _ _ _ _ _ ⟨rfl, by lia, _, _, rfl, ?_⟩ (Over.of (by assumption) (by assumption))
    rename KBw.bInts (KBy.picked _ _ _) = _ => hk
    rw [hk, clipAt_in (by lia) (by lia), clipAt_in (by lia) (by lia), show (i + many).toNat - i.toNat = many.toNat by lia]
theorem w_take {Q E : Value → Shared → Prop} {L f' : Addr} {m : PySem.Str → Option Value} {news : List (Addr × Obj)} {news' : Int → Tok → List (Addr × Obj)} {qual : PySem.Str} {scope : Scope} {cd : Value}
    (a : Amb w mean mg mb A base outer g) (F : Fr g L s.heap m) (N : News g L s.heap news) (hx : (x, instObj 183 dx) ∈ news) (hd : (dx, curD w bs i e t1 t2 t3 tb ti te) ∈ news)
    (U : ∀ i' ti', Upd dx (curD w bs i e t1 t2 t3 tb ti te) (curD w bs i' e t1 t2 t3 tb ti' te) news (news' i' ti')) (hlt : dx < x) (hb : KBw.bInts bs = ks) (h0 : 0 ≤ i) (he : e ≤ ks.length) (hz : ks.length ≤ 1000) {many : Int} {tm : Tok} (hm : 0 ≤ many) (hr : Rm A 10)
    (hret : many ≤ e - i → ∀ h' tk' b t ti', KBw.bInts b = (ks.drop i.toNat).take many.toNat → Fr g L h' m → News g L h' (news' (i + many) ti') → Q (.bytes b t) { s with heap := h', toks := tk' })
    (hexc : e - i < many → ∀ h' tk' ex i' ti', Exc g outer (envOf qual scope L f' cd :: outer) ex (news' i' ti') h' → h'.Ns L m → E (.ref ex) { s with heap := h', toks := tk' })
    (hk : scope.kind = .function) : wpAny (MW w) (A.deeper (envOf qual scope L f' cd)) (call (.ref 117) [.ref x, .int many tm]) Q E s :=
  CurC.w (c_take hlt hb h0 he hz hm) a F N hx hd U hr (fun h' tk' v i' ti' r F' N' => by obtain ⟨rfl, h1, b, t, rfl, h2⟩ := r; exact hret h1 _ _ _ _ _ h2 F' N') hexc hk
theorem c_init (hr : Rm A 4) (a : Amb w mean mg mb A base outer g) {endV : Value} (o : Over g s [(x, instObj 183 dx), (dx, emptyDict)]) (hlt : dx < x)
    {R : Result → Shared → Prop}
    (hret : ∀ h' tk' t1 t2 t3 (e : Int) te, (match endV with | .none => e = ks.length | .int z u => e = z ∧ te = u | _ => False) → Over g { s with heap := h', toks := tk' } (curOwn w x dx bs e t1 t2 t3 tb te i ti) → R (.ok (.ret .none)) { s with heap := h', toks := tk' })
    (hend : endV = .none ∨ ∃ z u, endV = .int z u) (hb : KBw.bInts bs = ks) (hz : ks.length ≤ 1000) :
    codeAny (MW w) A (.call (.ref 82) ⟨[.ref x, .bytes bs tb, .int i ti, endV], []⟩) R s := by
  obtain ⟨hd, dp, fr, gd, un⟩ := A
  obtain rfl : hd = none := a.hh
  obtain rfl : fr = some outer := a.B.stack
  have X := a.X
  have T := a.T
  have B := a.B
  refine' enter (binds := [(PySem.Str.ofString "self", .ref x), (PySem.Str.ofString "octets", .bytes bs tb), (PySem.Str.ofString "at", .int i ti), (PySem.Str.ofString "end", endV)]) a o ?k6 ?k7 ?k8 ?k9 ?kB ?_ ?c2 ?c3 ?c4 ?c5
  (case k6 => k_is)
  (case k7 => k_is)
  (case k8 => exact hr.depth)
  (case k9 => first | exact BindsTo.of_eq rfl | exact binds_K (a.X.keeps o.st) rfl (by k_is) rfl rfl rfl)
  (case kB => exact locs rfl)
  (case c2 => exact rfl)
  (case c3 => exact rfl)
  (case c4 => exact rfl)
  (case c5 => decide)
  intro L F0 tk F N
  dsimp only [ifs, List.reverse, List.reverseAux] at F
  conv in (occs := *) fnBody _ => all_goals whnf
  conv in (occs := *) fnScope _ => all_goals whnf
  try dsimp only
  k_fold
  rcases hend with rfl | ⟨z, u, rfl⟩
  all_goals k_steps
  · refine hret _ _ _ _ _ _ _ ?_ (Over.of (by assumption) (by assumption))
    rfl
  · refine hret _ _ _ _ _ _ _ ?_ (Over.of (by assumption) (by assumption))
    exact ⟨rfl, rfl⟩
noncomputable abbrev insO : Obj := instObj 183 0
theorem mk183 {rest : List Value} {Q E : Value → Shared → Prop} (a : Amb w mean mg mb A base outer s.heap)
    (hq : codeAny (MW w) (A.under (.builtin "type.__call__" ⟨.ref 183 :: rest, []⟩)) (.call (.ref 82) ⟨.ref (s.heap.objs.size + 1) :: rest, []⟩) (InitBack (s.heap.objs.size + 1) (ResP Q E)) { s with heap := (s.heap.push emptyDict).push (instObj 183 s.heap.objs.size) }) :
    wpAny (MW w) A (call (.ref 183) rest) Q E s := by
  obtain ⟨hh, g', d, t, os⟩ := s
  exact wpAny_call (make_core (makes_of a.X (by k_is)) (looks_findIn (K := K w.params) a.X (r := some (.ref 82)) (by k_is)) (fun self => bind_fn a.X self (by k_is)) (.inl rfl) hq)
theorem rm183 {n : Nat} {vals : List Value} (h : Rm A (n + 1)) : Rm (A.under (.builtin "type.__call__" ⟨.ref 183 :: vals, []⟩)) n := by
  unfold Rm at *
  rw [depth_under_make, units_under_make]
  lia
/-- a cursor made: over a frame -/
theorem w_mkCur {endV : Value} {Q E : Value → Shared → Prop} {L f' : Addr} {m : PySem.Str → Option Value} {news : List (Addr × Obj)} {qual : PySem.Str} {scope : Scope} {cd : Value} {rest : List Value}
    (a : Amb w mean mg mb A base outer g) (F : Fr g L s.heap m) (N : News g L s.heap news) (hr : Rm A 6) (hb : KBw.bInts bs = ks) (hz : ks.length ≤ 1000) (hend : endV = .none ∨ ∃ z u, endV = .int z u)
    (hrest : rest = [.bytes bs tb, .int i ti, endV])
    (hret : ∀ h' tk' x dx t1 t2 t3 (e : Int) te, (match endV with | .none => e = ks.length | .int z u => e = z ∧ te = u | _ => False) → @LT.lt Nat _ dx x → (∀ p ∈ news, p.1 < dx) → @LT.lt Nat _ L dx → Fr g L h' m → News g L h' ((x, instObj 183 dx) :: (dx, curD w bs i e t1 t2 t3 tb ti te) :: news) → Q (.ref x) { s with heap := h', toks := tk' })
    (hk : scope.kind = .function) :
    wpAny (MW w) (A.deeper (envOf qual scope L f' cd)) (call (.ref 183) rest) Q E s := by
  subst hrest
  have a' := siteA (own := []) (news := news) (qual := qual) (scope := scope) (f := f') (cd := cd) a F N (fun _ h => nomatch h) hk
  refine mk183 a' ?_
  refine c_init (g := s.heap) (rm183 (n := 4) hr.deeper) (a'.under rfl) (x := s.heap.objs.size + 1) (dx := s.heap.objs.size) (endV := endV) (tb := tb) (ti := ti) (i := i) (bs := bs) (ks := ks) ⟨fun b o e => Heap.get?_push_of_some _ (Heap.get?_push_of_some _ e), ?_, ?_⟩ (Nat.lt_succ_self _) ?_ hend hb hz
  · show s.heap.objs.size ≤ ((s.heap.push emptyDict).push _).objs.size
    rw [Heap.size_push, Heap.size_push]; lia
  · intro p hp
    rcases List.mem_cons.mp hp with rfl | hp
    · refine ⟨?_, Heap.get?_none_of_le (Nat.le_succ _)⟩
      have := Heap.get?_push_size (h := s.heap.push emptyDict) (o := instObj 183 s.heap.objs.size) rfl
      rw [Heap.size_push] at this
      exact this
    · rcases List.mem_cons.mp hp with rfl | hp
      · exact ⟨Heap.get?_push_of_some _ (Heap.get?_push_size _ rfl), Heap.get?_none_of_le (Nat.le_refl _)⟩
      · nomatch hp
  · intro h' tk' t1 t2 t3 e te he o'
    have hout : ∀ b, b = s.heap.objs.size ∨ b = s.heap.objs.size + 1 → b ≠ L ∧ g.get? b = none := fun b hb => by
      have hL : L < s.heap.objs.size := F.ns.lt
      have hge : s.heap.objs.size ≤ b := by rcases hb with rfl | rfl; exact Nat.le_refl _; exact Nat.le_succ _
      have hn : s.heap.get? b = none := Heap.get?_none_of_le hge
      refine ⟨fun q => absurd hL (by rw [← q]; exact Nat.not_lt.mpr hge), ?_⟩
      cases z : g.get? b with
      | none => rfl
      | some ob => rw [F.keep _ _ z] at hn; cases hn
    refine ⟨rfl, hret h' tk' _ _ t1 t2 t3 e te he (Nat.lt_succ_self _) (fun p hp => Heap.lt_size (N p hp).1) F.ns.lt (F.kept (fun b ob eb => o'.st b ob eb)) fun p hp => ?_⟩
    rcases List.mem_cons.mp hp with rfl | hp
    · exact ⟨(o'.O _ (.head _)).1, hout _ (.inr rfl)⟩
    · rcases List.mem_cons.mp hp with rfl | hp
      · exact ⟨(o'.O _ (.tail _ (.head _))).1, hout _ (.inl rfl)⟩
      · exact ⟨o'.st _ _ (N p hp).1, (N p hp).2⟩
end
-- Kd
theorem wnext {h₀ : Heap} {L : Addr} {s : Shared} {J : Nat → (PySem.Str → Option Value) → List (Addr × Obj) → Prop} {Q : Flow → Shared → Prop} {n n' : Nat} {h' : Heap} {tk : Nat} {m : PySem.Str → Option Value} {news : List (Addr × Obj)}
    (F : Fr h₀ L h' m) (N : News h₀ L h' news) (hn : n' < n) (j : J n' m news) : WhileStep2 h₀ L s J Q n .next { s with heap := h', toks := tk } := ⟨h', tk, m, news, n', rfl, F, N, hn, j⟩
section
variable {w : World} {mean : ExcName → Option Value} {mg mb : PySem.Str → Option Value} {A : Around} {base g : Heap} {outer : List Env} {s : Shared} {Q E : Value → Shared → Prop}
  {x dx : Nat} {bs : Array UInt8} {ks : List Int} {i e : Int} {t1 t2 t3 tb ti te : Tok}
theorem w_mkCur3 {Q E : Value → Shared → Prop} {L f' : Addr} {m : PySem.Str → Option Value} {news : List (Addr × Obj)} {qual : PySem.Str} {scope : Scope} {cd : Value}
    (a : Amb w mean mg mb A base outer g) (F : Fr g L s.heap m) (N : News g L s.heap news) (hr : Rm A 6) (hb : KBw.bInts bs = ks) (hz : ks.length ≤ 1000)
    (hret : ∀ h' tk' x dx t1 t2 t3, @LT.lt Nat _ dx x → (∀ p ∈ news, p.1 < dx) → @LT.lt Nat _ L dx → Fr g L h' m → News g L h' ((x, instObj 183 dx) :: (dx, curD w bs i e t1 t2 t3 tb ti te) :: news) → Q (.ref x) { s with heap := h', toks := tk' })
    (hk : scope.kind = .function) :
    wpAny (MW w) (A.deeper (envOf qual scope L f' cd)) (call (.ref 183) [.bytes bs tb, .int i ti, .int e te]) Q E s :=
  w_mkCur a F N hr hb hz (.inr ⟨_, _, rfl⟩) rfl (fun h' tk' x dx t1 t2 t3 e' te' he l1 l2 l3 F' N' => by obtain ⟨h1, h2⟩ := he; subst h1 h2; exact hret h' tk' x dx t1 t2 t3 l1 l2 l3 F' N') hk
theorem w_mkCur1 {Q E : Value → Shared → Prop} {L f' : Addr} {m : PySem.Str → Option Value} {news : List (Addr × Obj)} {qual : PySem.Str} {scope : Scope} {cd : Value}
    (a : Amb w mean mg mb A base outer g) (F : Fr g L s.heap m) (N : News g L s.heap news) (hr : Rm A 6) (hb : KBw.bInts bs = ks) (hz : ks.length ≤ 1000)
    (hret : ∀ h' tk' x dx t1 t2 t3 te, @LT.lt Nat _ dx x → (∀ p ∈ news, p.1 < dx) → @LT.lt Nat _ L dx → Fr g L h' m → News g L h' ((x, instObj 183 dx) :: (dx, curD w bs i ks.length t1 t2 t3 tb ti te) :: news) → Q (.ref x) { s with heap := h', toks := tk' })
    (hk : scope.kind = .function) :
    wpAny (MW w) (A.deeper (envOf qual scope L f' cd)) (call (.ref 183) [.bytes bs tb, .int i ti, .none]) Q E s :=
  w_mkCur a F N hr hb hz (.inl rfl) rfl (fun h' tk' x dx t1 t2 t3 e' te' he l1 l2 l3 F' N' => by subst he; exact hret h' tk' x dx t1 t2 t3 _ l1 l2 l3 F' N') hk
theorem c_part (hlt : dx < x) (hb : KBw.bInts bs = ks) (hz : ks.length ≤ 1000) {many : Int} {tm : Tok} (a : Amb w mean mg mb A base outer g) (o : Over g s (curOwn w x dx bs e t1 t2 t3 tb te i ti)) (hr : Rm A 9)
    (hret : many ≤ e - i → ∀ h' tk' y dy ti' s1 s2 s3 ti2 te2, @LT.lt Nat _ dy y → @LT.lt Nat _ x dy → @LT.lt Nat _ dx dy → (∀ b ob, g.get? b = some ob → @LT.lt Nat _ b dy) → Over g { s with heap := h', toks := tk' } ((y, instObj 183 dy) :: (dy, curD w bs i (i + many) s1 s2 s3 tb ti2 te2) :: curOwn w x dx bs e t1 t2 t3 tb te (i + many) ti') → Q (.ref y) { s with heap := h', toks := tk' })
    (hexc : e - i < many → ∀ h' tk' ex i' ti', Exc g outer outer ex (curOwn w x dx bs e t1 t2 t3 tb te i' ti') h' → E (.ref ex) { s with heap := h', toks := tk' }) :
    wpAny (MW w) A (call (.ref 124) [.ref x, .int many tm]) Q E s := by
  obtain ⟨hd, dp, fr, gd, un⟩ := A
  obtain rfl : hd = none := a.hh
  obtain rfl : fr = some outer := a.B.stack
  have X := a.X
  have T := a.T
  have B := a.B
  refine wpAny_call ?_
  refine' enter (binds := [(PySem.Str.ofString "self", .ref x), (PySem.Str.ofString "many", .int many tm)]) a o ?k6 ?k7 ?k8 ?k9 ?kB ?_ ?c2 ?c3 ?c4 ?c5
  (case k6 => k_is)
  (case k7 => k_is)
  (case k8 => exact hr.depth)
  (case k9 => first | exact BindsTo.of_eq rfl | exact binds_K (a.X.keeps o.st) rfl (by k_is) rfl rfl rfl)
  (case kB => exact locs rfl)
  (case c2 => exact rfl)
  (case c3 => exact rfl)
  (case c4 => exact rfl)
  (case c5 => decide)
  intro L F0 tk F N
  dsimp only [ifs, List.reverse, List.reverseAux] at F
  conv in (occs := *) fnBody _ => all_goals whnf
  conv in (occs := *) fnScope _ => all_goals whnf
  try dsimp only
  k_fold
  repeat' (first | (k_unfold; (try dsimp only)) | (k_end; wrow_close) | ((fail_if_success fail_if_success with_reducible show wpAny _ _ (call (Value.ref _) _ _) _ _ _); (first | (k_dflt (refine w_mkCur3 (ks := ks) (by assumption) (by assumption) (by assumption) (Rm.le (by assumption) (by decide)) (by assumption) (by first | assumption | lia) (fun h' tk' x' dx' t1' t2' t3' l1' l2' l3' F' N' => ?_) rfl); (k_lt l2'); (try k_sweep)) | (k_dflt (refine w_mkCur1 (ks := ks) (by assumption) (by assumption) (by assumption) (Rm.le (by assumption) (by decide)) (by assumption) (by first | assumption | lia) (fun h' tk' x' dx' t1' t2' t3' te' l1' l2' l3' F' N' => ?_) rfl); (k_lt l2'); (try k_sweep)))) | ((fail_if_success fail_if_success with_reducible show wpAny _ _ (call (Value.ref _) _ _) _ _ _); (k_dflt (refine w_left (by assumption) (by assumption) (by assumption) (by k_mem) (by k_mem) (fun _ _ => by k_upd) (by assumption) (Rm.le (by assumption) (by decide)) (fun h' tk' t' F' N' => ?_) (fun z' => absurd z' (fun h => h)) rfl); (try dsimp only at F' N'); try k_sweep)) | ((fail_if_success fail_if_success with_reducible show wpAny _ _ (leaving _ (Value.ref _)) _ _ _); (first | (k_dflt (refine leave_first (by assumption) (by assumption) (by assumption) (by assumption) (fun h'' x'' => ?_) rfl)) | (k_dflt (refine leave_next (by assumption) (by assumption) fun h'' x'' => ?_)))) | ((fail_if_success fail_if_success with_reducible show _ ∧ _); (refine ⟨rfl, by assumption, fun h' e' tk' mx' => ?_⟩)) | ((fail_if_success fail_if_success with_reducible show wpAny _ _ (exec (Stmt.Raise (some _) none _) _) _ _ _); (k_dflt (refine raise_K (by assumption) (by assumption) (Rm.le (by assumption) (by decide)) rfl ?_ rfl rfl rfl rfl))) | walk1 | (dsimp only; (first | ((fail_if_success fail_if_success with_reducible show wpAny _ _ (call (Value.ref _) _ _) _ _ _); (first | (k_dflt (refine w_mkCur3 (ks := ks) (by assumption) (by assumption) (by assumption) (Rm.le (by assumption) (by decide)) (by assumption) (by first | assumption | lia) (fun h' tk' x' dx' t1' t2' t3' l1' l2' l3' F' N' => ?_) rfl); (k_lt l2'); (try k_sweep)) | (k_dflt (refine w_mkCur1 (ks := ks) (by assumption) (by assumption) (by assumption) (Rm.le (by assumption) (by decide)) (by assumption) (by first | assumption | lia) (fun h' tk' x' dx' t1' t2' t3' te' l1' l2' l3' F' N' => ?_) rfl); (k_lt l2'); (try k_sweep)))) | ((fail_if_success fail_if_success with_reducible show wpAny _ _ (call (Value.ref _) _ _) _ _ _); (k_dflt (refine w_left (by assumption) (by assumption) (by assumption) (by k_mem) (by k_mem) (fun _ _ => by k_upd) (by assumption) (Rm.le (by assumption) (by decide)) (fun h' tk' t' F' N' => ?_) (fun z' => absurd z' (fun h => h)) rfl); (try dsimp only at F' N'); try k_sweep)) | ((fail_if_success fail_if_success with_reducible show wpAny _ _ (leaving _ (Value.ref _)) _ _ _); (first | (k_dflt (refine leave_first (by assumption) (by assumption) (by assumption) (by assumption) (fun h'' x'' => ?_) rfl)) | (k_dflt (refine leave_next (by assumption) (by assumption) fun h'' x'' => ?_)))) | ((fail_if_success fail_if_success with_reducible show _ ∧ _); (refine ⟨rfl, by assumption, fun h' e' tk' mx' => ?_⟩)) | ((fail_if_success fail_if_success with_reducible show wpAny _ _ (exec (Stmt.Raise (some _) none _) _) _ _ _); (k_dflt (refine raise_K (by assumption) (by assumption) (Rm.le (by assumption) (by decide)) rfl ?_ rfl rfl rfl rfl))) | walk1)) | (leave1; (try dsimp only)) | fail "no step")
  · exact hexc (by assumption) _ _ _ _ _ (by assumption)
  · rename _ ∧ _ => l
    exact hret (by lia) _ _ _ _ _ _ _ _ _ _ (by assumption) l.1 l.2 (fun b ob hb => Nat.lt_trans (Nat.lt_of_lt_of_le (Heap.lt_size hb) (Fr.above (by assumption))) (by assumption)) (Over.of (by assumption) (by assumption))
theorem w_part {many : Int} {tm : Tok} {Q E : Value → Shared → Prop} {L f' : Addr} {m : PySem.Str → Option Value} {news : List (Addr × Obj)} {news' : Int → Tok → List (Addr × Obj)} {qual : PySem.Str} {scope : Scope} {cd : Value}
    (a : Amb w mean mg mb A base outer g) (F : Fr g L s.heap m) (N : News g L s.heap news) (hx : (x, instObj 183 dx) ∈ news) (hd : (dx, curD w bs i e t1 t2 t3 tb ti te) ∈ news)
    (U : ∀ i' ti', Upd dx (curD w bs i e t1 t2 t3 tb ti te) (curD w bs i' e t1 t2 t3 tb ti' te) news (news' i' ti')) (hlt : dx < x) (hb : KBw.bInts bs = ks) (hz : ks.length ≤ 1000) (hr : Rm A 10)
    (hret : many ≤ e - i → ∀ h' tk' y dy ti' s1 s2 s3 ti2 te2, @LT.lt Nat _ dy y → @LT.lt Nat _ x dy → @LT.lt Nat _ dx dy → (∀ p ∈ news, p.1 < dy) → Fr g L h' m → News g L h' ((y, instObj 183 dy) :: (dy, curD w bs i (i + many) s1 s2 s3 tb ti2 te2) :: news' (i + many) ti') → Q (.ref y) { s with heap := h', toks := tk' })
    (hexc : e - i < many → ∀ h' tk' ex i' ti', Exc g outer (envOf qual scope L f' cd :: outer) ex (news' i' ti') h' → h'.Ns L m → E (.ref ex) { s with heap := h', toks := tk' })
    (hk : scope.kind = .function) : wpAny (MW w) (A.deeper (envOf qual scope L f' cd)) (call (.ref 124) [.ref x, .int many tm]) Q E s := by
  have hin : ∀ p ∈ curOwn w x dx bs e t1 t2 t3 tb te i ti, p ∈ news := fun p hp => by
    rcases List.mem_cons.mp hp with rfl | hp
    · exact hx
    · rcases List.mem_cons.mp hp with rfl | hp
      · exact hd
      · nomatch hp
  refine c_part hlt hb hz (siteA a F N hin hk) (siteO N hin) hr.deeper (fun hm h' tk' y dy ti' s1 s2 s3 ti2 te2 l1 l2 l3 l4 o' => ?_) fun z h' tk' ex i' ti' x' => ?_
  · obtain ⟨F', N'⟩ := site_back F N hin o' (news' := (y, instObj 183 dy) :: (dy, curD w bs i (i + many) s1 s2 s3 tb ti2 te2) :: news' (i + many) ti') (fun p hp => by
      rcases List.mem_cons.mp hp with rfl | hp
      · exact .inl (.head _)
      · rcases List.mem_cons.mp hp with rfl | hp
        · exact .inl (.tail _ (.head _))
        · exact (upd_or N hx (U (i + many) ti') p hp).imp (fun q => .tail _ (.tail _ q)) id)
    refine hret hm h' tk' y dy ti' s1 s2 s3 ti2 te2 l1 l2 l3 (fun p hp => ?_) F' N'
    rcases same_or N hin p hp with q | ⟨_, q⟩
    · rcases List.mem_cons.mp q with rfl | q
      · exact l2
      · rcases List.mem_cons.mp q with rfl | q
        · exact l3
        · nomatch q
    · exact l4 _ _ (hideAll_get _ (N p hp).1 q)
  · obtain ⟨y, n'⟩ := exc_site a F N hin x' (upd_or N hx (U i' ti'))
    exact hexc z h' tk' ex i' ti' y n'
end
-- Ku
/-- the number that stands at i, read by at most r octets more; found: what the first 5 - r of them gave -/
noncomputable def uRd (ks : List Int) (e : Int) : Nat → Int → Int → Option (Int × Int)
  | 0, _, _ => none
  | r + 1, found, i => if i < e then (if r = 0 ∧ 16 ≤ ks.getD i.toNat 0 then none else if ks.getD i.toNat 0 < 128 then some (found + ks.getD i.toNat 0 % 128 * 128 ^ (4 - r), i + 1) else uRd ks e r (found + ks.getD i.toNat 0 % 128 * 128 ^ (4 - r)) (i + 1)) else none
theorem byte_in {bs : Array UInt8} {ks : List Int} (hb : KBw.bInts bs = ks) (j : Nat) : 0 ≤ ks.getD j 0 ∧ ks.getD j 0 < 256 := by
  subst hb
  exact KBw.getD_in (fun k hk => KBw.ints_in hk)
theorem and127 {o : Int} (h : 0 ≤ o) : Builtin.bitAnd o 127 = o % 128 := by
  rw [bitAnd_pp h (by decide)]
  have : o.toNat &&& (127 : Int).toNat = o.toNat % 2 ^ 7 := Nat.and_two_pow_sub_one_eq_mod o.toNat 7
  rw [this]
  lia
theorem uRd_stop {ks : List Int} {e found i : Int} (h : ¬ i < e) : ∀ n, uRd ks e n found i = none
  | 0 => rfl
  | n + 1 => by unfold uRd; rw [if_neg h]
theorem uRd_big {ks : List Int} {e found i : Int} (n : Nat) (hn : n ≤ 1) (h : 16 ≤ ks.getD i.toNat 0) : uRd ks e n found i = none := by
  match n with
  | 0 => rfl
  | 1 =>
    unfold uRd
    split
    · rw [if_pos ⟨rfl, h⟩]
    · rfl
theorem uRd_done {ks : List Int} {e found i : Int} {n : Nat} (hn : 1 ≤ n) (hi : i < e) (hc : n = 1 → ks.getD i.toNat 0 < 16) (h : ks.getD i.toNat 0 < 128) :
    uRd ks e n found i = some (found + ks.getD i.toNat 0 % 128 * 128 ^ (5 - n), i + 1) := by
  match n, hn with
  | n + 1, _ =>
    unfold uRd
    rw [if_pos hi, if_neg (by intro z; have := hc (by lia); lia), if_pos h, show 5 - (n + 1) = 4 - n by lia]
theorem uRd_more {ks : List Int} {e found i : Int} {n : Nat} (hn : 2 ≤ n) (hi : i < e) (h : ¬ ks.getD i.toNat 0 < 128) :
    uRd ks e n found i = uRd ks e (n - 1) (found + ks.getD i.toNat 0 % 128 * 128 ^ (5 - n)) (i + 1) := by
  match n, hn with
  | n + 1, hn =>
    rw [uRd]
    rw [if_pos hi, if_neg (by lia), if_neg h, show 5 - (n + 1) = 4 - n by lia]
    rfl
theorem pow7 {n : Nat} (h : n ≤ 5) : (2 : Int) ^ (7 * (5 - (n : Int))).toNat = 128 ^ (5 - n) := by
  match n, h with
  | 0, _ => decide
  | 1, _ => decide
  | 2, _ => decide
  | 3, _ => decide
  | 4, _ => decide
  | 5, _ => decide
theorem found_lt {n : Nat} {found o : Int} (h2 : 2 ≤ n) (h5 : n ≤ 5) (h : found < 128 ^ (5 - n)) (ho : o < 128) (h0 : 0 ≤ o) : found + o * 128 ^ (5 - n) < 128 ^ (5 - (n - 1)) := by
  match n, h2, h5 with
  | 2, _, _ => simp at *; lia
  | 3, _, _ => simp at *; lia
  | 4, _, _ => simp at *; lia
  | 5, _, _ => simp at *; lia
inductive JU (w : World) (x dx : Nat) (bs : Array UInt8) (ks : List Int) (e : Int) (t1 t2 t3 tb te tm : Tok) (i0 : Int) (n : Nat) (m : PySem.Str → Option Value) (news : List (Addr × Obj)) : Prop
  | mk (found i sh : Int) (tf ts ti tg : Tok) (h1 : 1 ≤ n) (h2 : n ≤ 5) (h3 : uRd ks e n found i = uRd ks e 5 0 i0) (h4 : 0 ≤ i) (h5 : 0 ≤ found) (h6 : found < 128 ^ (5 - n)) (h7 : sh = 7 * (5 - n)) (h8 : AllOn m [(PySem.Str.ofString "shift", .int sh ts), (PySem.Str.ofString "found", .int found tf), (PySem.Str.ofString "begin", .int i0 tg), (PySem.Str.ofString "bits", .int 32 tm), (PySem.Str.ofString "self", .ref x)]) (h9 : news = [(x, instObj 183 dx), (dx, curD w bs i e t1 t2 t3 tb ti te)]) : JU w x dx bs ks e t1 t2 t3 tb te tm i0 n m news
theorem shr_n {o : Int} {n : Nat} (hn : n = 1) (h : 0 ≤ o) : (Builtin.bitAnd o 127).fdiv (2 ^ (32 - 7 * (5 - (n : Int))).toNat) = o % 128 / 16 := by
  subst hn
  rw [and127 h]
  show (o % 128).fdiv 16 = _
  rw [Int.fdiv_eq_ediv_of_nonneg _ (by decide)]
section
variable {w : World} {mean : ExcName → Option Value} {mg mb : PySem.Str → Option Value} {A : Around} {base g : Heap} {outer : List Env} {s : Shared} {Q E : Value → Shared → Prop}
  {x dx : Nat} {bs : Array UInt8} {ks : List Int} {i e : Int} {t1 t2 t3 tb ti te : Tok}
theorem c_unsigned (hlt : dx < x) (hb : KBw.bInts bs = ks) (h0 : 0 ≤ i) (he : e ≤ ks.length) (hz : ks.length ≤ 1000) {tm : Tok} : CurC w 131 [.ref x, .int 32 tm] 12 x dx bs e t1 t2 t3 tb te i ti (fun v i' ti' => ∃ n t, uRd ks e 5 0 i = some (n, i') ∧ v = .int n t) (uRd ks e 5 0 i = none) := by
  intro mean mg mb A base g outer s Q E a o hr hret hexc
  obtain ⟨hd, dp, fr, gd, un⟩ := A
  obtain rfl : hd = none := a.hh
  obtain rfl : fr = some outer := a.B.stack
  have X := a.X
  have T := a.T
  have B := a.B
  refine wpAny_call ?_
  refine' enter (binds := [(PySem.Str.ofString "self", .ref x), (PySem.Str.ofString "bits", .int 32 tm)]) a o ?k6 ?k7 ?k8 ?k9 ?kB ?_ ?c2 ?c3 ?c4 ?c5
  (case k6 => k_is)
  (case k7 => k_is)
  (case k8 => exact hr.depth)
  (case k9 => first | exact BindsTo.of_eq rfl | exact binds_K (a.X.keeps o.st) rfl (by k_is) rfl rfl rfl)
  (case kB => exact locs rfl)
  (case c2 => exact rfl)
  (case c3 => exact rfl)
  (case c4 => exact rfl)
  (case c5 => decide)
  intro L F0 tk F N
  dsimp only [ifs, List.reverse, List.reverseAux] at F
  dsimp only [curOwn] at N
  conv in (occs := *) fnBody _ => all_goals whnf
  conv in (occs := *) fnScope _ => all_goals whnf
  try dsimp only
  k_fold
  iterate 26 walk1
  rename Fr _ _ _ _ => F1
  rename News _ _ _ _ => N1
  refine While_inv2 (JU w x dx bs ks e t1 t2 t3 tb te tm i) (n₀ := 5) F1 (News_sub N1 (fun p hp => .tail _ hp)) ⟨0, i, 0, _, _, _, _, by decide, by decide, rfl, h0, by decide, by decide, rfl, ⟨rfl, rfl, rfl, rfl, rfl, trivial⟩, rfl⟩ ?_
  clear F1 N1
  intro n m₁ news₁ h₁ tk₁ F₁ N₁ J₁
  obtain ⟨found, i1, sh, tf, ts, ti1, tg, hn1, hn5, hu, hi1, hf0, hfl, rfl, hm, rfl⟩ := J₁
  replace F₁ := Fr_on F₁ hm
  dsimp only [ifsE] at F₁
  have hby := byte_in hb i1.toNat
  have hand := and127 hby.1
  have hand1 : 0 ≤ Builtin.bitAnd (ks.getD i1.toNat 0) 127 := by lia
  have hand2 : Builtin.bitAnd (ks.getD i1.toNat 0) 127 ≤ 127 := by lia
  repeat' (first | (k_unfold; (try dsimp only)) | (k_end; wrow_close) | ((fail_if_success fail_if_success with_reducible show wpAny _ _ (call (Value.ref _) _ _) _ _ _); (k_dflt (refine w_octet (ks := ks) (by assumption) (by assumption) (by assumption) (by k_mem) (by k_mem) (fun _ _ => by k_upd) (by assumption) (by assumption) (by first | assumption | lia) (by first | assumption | lia) (by first | assumption | lia) (Rm.le (by assumption) (by decide)) (fun hi' lo' hi2' h' tk' t' ti' F' N' => ?_) (fun z' h' tk' ex' i' ti' x' n' => ?_) rfl))) | ((fail_if_success fail_if_success with_reducible show wpAny _ _ (leaving _ (Value.ref _)) _ _ _); (first | (k_dflt (refine leave_first (by assumption) (by assumption) (by assumption) (by assumption) (fun h'' x'' => ?_) rfl)) | (k_dflt (refine leave_next (by assumption) (by assumption) fun h'' x'' => ?_)))) | ((fail_if_success fail_if_success with_reducible show _ ∧ _); (refine ⟨rfl, by assumption, fun h' e' tk' mx' => ?_⟩)) | ((fail_if_success fail_if_success with_reducible show wpAny _ _ (exec (Stmt.Raise (some _) none _) _) _ _ _); (k_dflt (refine raise_K (by assumption) (by assumption) (Rm.le (by assumption) (by decide)) rfl ?_ rfl rfl rfl rfl))) | walk1 | (dsimp only; (first | ((fail_if_success fail_if_success with_reducible show wpAny _ _ (call (Value.ref _) _ _) _ _ _); (k_dflt (refine w_octet (ks := ks) (by assumption) (by assumption) (by assumption) (by k_mem) (by k_mem) (fun _ _ => by k_upd) (by assumption) (by assumption) (by first | assumption | lia) (by first | assumption | lia) (by first | assumption | lia) (Rm.le (by assumption) (by decide)) (fun hi' lo' hi2' h' tk' t' ti' F' N' => ?_) (fun z' h' tk' ex' i' ti' x' n' => ?_) rfl))) | ((fail_if_success fail_if_success with_reducible show wpAny _ _ (leaving _ (Value.ref _)) _ _ _); (first | (k_dflt (refine leave_first (by assumption) (by assumption) (by assumption) (by assumption) (fun h'' x'' => ?_) rfl)) | (k_dflt (refine leave_next (by assumption) (by assumption) fun h'' x'' => ?_)))) | ((fail_if_success fail_if_success with_reducible show _ ∧ _); (refine ⟨rfl, by assumption, fun h' e' tk' mx' => ?_⟩)) | ((fail_if_success fail_if_success with_reducible show wpAny _ _ (exec (Stmt.Raise (some _) none _) _) _ _ _); (k_dflt (refine raise_K (by assumption) (by assumption) (Rm.le (by assumption) (by decide)) rfl ?_ rfl rfl rfl rfl))) | walk1)) | (leave1; (try dsimp only)) | fail "no step")
  · have h1 : n = 1 := by lia
    rename (Builtin.bitAnd _ _).fdiv _ ≠ 0 => h2
    rw [shr_n h1 hby.1] at h2
    exact hexc (by rw [← hu]; exact uRd_big n (by lia) (by lia)) _ _ _ _ _ (by assumption)
  · exact hexc (by rw [← hu]; exact uRd_big n (by lia) (by lia)) _ _ _ _ _ (by assumption)
  · have h1 : n = 1 := by lia
    rename (Builtin.bitAnd _ _).fdiv _ = 0 => h2
    rw [shr_n h1 hby.1] at h2
    exact hret _ _ _ _ _ ⟨_, _, by rw [← hu, uRd_done hn1 (by lia) (by lia) (by lia), hand, pow7 hn5], rfl⟩ (Over.of (by assumption) (by assumption))
  · exact hret _ _ _ _ _ ⟨_, _, by rw [← hu, uRd_done hn1 (by lia) (by lia) (by lia), hand, pow7 hn5], rfl⟩ (Over.of (by assumption) (by assumption))
  · rename Fr _ _ _ _ => F2
    rename News _ _ _ _ => N2
    refine wnext (n' := n - 1) F2 N2 (by lia) ?_
    refine ⟨_, i1 + 1, _, _, _, _, _, by lia, by lia, ?_, by lia, ?_, ?_, ?_, ⟨rfl, rfl, rfl, rfl, rfl, trivial⟩, rfl⟩
    · rw [← hu, uRd_more (n := n) (found := found) (i := i1) (by lia) (by lia) (by lia), hand, pow7 hn5]
    · exact Int.add_nonneg hf0 (Int.mul_nonneg hand1 (Int.pow_nonneg (by decide)))
    · rw [pow7 hn5]; exact found_lt (by lia) hn5 hfl (by lia) hand1
    · lia
  · exact hexc (by rw [← hu]; exact uRd_stop (by assumption) n) _ _ _ _ _ (by assumption)
end
-- Kv
theorem uRd_range {ks : List Int} {e : Int} {bs : Array UInt8} (hb : KBw.bInts bs = ks) : ∀ {r : Nat} {found i n i' : Int}, r ≤ 5 → 0 ≤ found → found < 128 ^ (5 - r) → uRd ks e r found i = some (n, i') → 0 ≤ n ∧ n < 4294967296 ∧ i < i' ∧ i' ≤ e
  | 0, _, _, _, _, _, _, _, h => nomatch h
  | r + 1, found, i, n, i', h5, hf, hl, h => by
    unfold uRd at h
    have hby := byte_in hb i.toNat
    generalize ks.getD i.toNat 0 = k at *
    split at h
    · rename_i hi
      split at h
      · cases h
      · rename_i hc
        have hm : 0 ≤ k % 128 * 128 ^ (4 - r) := Int.mul_nonneg (by lia) (Int.pow_nonneg (by decide))
        split at h
        · cases h
          refine ⟨by lia, ?_, by lia, by lia⟩
          match r, h5, hl, hm, hc with
          | 0, _, hl, _, hc => simp at *; lia
          | 1, _, hl, _, _ => simp at *; lia
          | 2, _, hl, _, _ => simp at *; lia
          | 3, _, hl, _, _ => simp at *; lia
          | 4, _, hl, _, _ => simp at *; lia
        · by_cases hr : r = 0
          · subst hr; cases h
          · have := uRd_range hb (r := r) (by lia) (by lia) (by
              have := found_lt (n := r + 1) (found := found) (o := k % 128) (by lia) h5 (by simpa using hl) (by lia) (by lia)
              simpa [show 5 - (r + 1) = 4 - r by lia] using this) h
            lia
    · cases h
noncomputable def u32P (ks : List Int) (e i : Int) : Option (Int × Int) := uRd ks e 5 0 i
theorem u32P_range {ks : List Int} {e : Int} {bs : Array UInt8} (hb : KBw.bInts bs = ks) {i n i' : Int} (h : u32P ks e i = some (n, i')) : 0 ≤ n ∧ n < 4294967296 ∧ i < i' ∧ i' ≤ e :=
  uRd_range hb (Nat.le_refl 5) (by decide) (by decide) h
section
variable {w : World} {mean : ExcName → Option Value} {mg mb : PySem.Str → Option Value} {A : Around} {base g : Heap} {outer : List Env} {s : Shared} {Q E : Value → Shared → Prop}
  {x dx : Nat} {bs : Array UInt8} {ks : List Int} {i e : Int} {t1 t2 t3 tb ti te : Tok}
theorem w_unsigned {Q E : Value → Shared → Prop} {L f' : Addr} {m : PySem.Str → Option Value} {news : List (Addr × Obj)} {news' : Int → Tok → List (Addr × Obj)} {qual : PySem.Str} {scope : Scope} {cd : Value}
    (a : Amb w mean mg mb A base outer g) (F : Fr g L s.heap m) (N : News g L s.heap news) (hx : (x, instObj 183 dx) ∈ news) (hd : (dx, curD w bs i e t1 t2 t3 tb ti te) ∈ news)
    (U : ∀ i' ti', Upd dx (curD w bs i e t1 t2 t3 tb ti te) (curD w bs i' e t1 t2 t3 tb ti' te) news (news' i' ti')) (hlt : dx < x) (hb : KBw.bInts bs = ks) (h0 : 0 ≤ i) (he : e ≤ ks.length) (hz : ks.length ≤ 1000) {tm : Tok} (hr : Rm A 13)
    (hret : ∀ n i', uRd ks e 5 0 i = some (n, i') → ∀ h' tk' t ti', Fr g L h' m → News g L h' (news' i' ti') → Q (.int n t) { s with heap := h', toks := tk' })
    (hexc : uRd ks e 5 0 i = none → ∀ h' tk' ex i' ti', Exc g outer (envOf qual scope L f' cd :: outer) ex (news' i' ti') h' → h'.Ns L m → E (.ref ex) { s with heap := h', toks := tk' })
    (hk : scope.kind = .function) : wpAny (MW w) (A.deeper (envOf qual scope L f' cd)) (call (.ref 131) [.ref x, .int 32 tm]) Q E s :=
  CurC.w (c_unsigned hlt hb h0 he hz) a F N hx hd U hr (fun h' tk' v i' ti' r F' N' => by obtain ⟨n, t, h1, rfl⟩ := r; exact hret _ _ h1 _ _ _ _ F' N') hexc hk
theorem c_u32 (hlt : dx < x) (hb : KBw.bInts bs = ks) (h0 : 0 ≤ i) (he : e ≤ ks.length) (hz : ks.length ≤ 1000) : CurC w 145 [.ref x] 14 x dx bs e t1 t2 t3 tb te i ti (fun v i' ti' => ∃ n t, u32P ks e i = some (n, i') ∧ v = .int n t) (u32P ks e i = none) := by
  intro mean mg mb A base g outer s Q E a o hr hret hexc
  obtain ⟨hd, dp, fr, gd, un⟩ := A
  obtain rfl : hd = none := a.hh
  obtain rfl : fr = some outer := a.B.stack
  have X := a.X
  have T := a.T
  have B := a.B
  refine wpAny_call ?_
  refine' enter (binds := [(PySem.Str.ofString "self", .ref x)]) a o ?k6 ?k7 ?k8 ?k9 ?kB ?_ ?c2 ?c3 ?c4 ?c5
  (case k6 => k_is)
  (case k7 => k_is)
  (case k8 => exact hr.depth)
  (case k9 => first | exact BindsTo.of_eq rfl | exact binds_K (a.X.keeps o.st) rfl (by k_is) rfl rfl rfl)
  (case kB => exact locs rfl)
  (case c2 => exact rfl)
  (case c3 => exact rfl)
  (case c4 => exact rfl)
  (case c5 => decide)
  intro L F0 tk F N
  dsimp only [ifs, List.reverse, List.reverseAux] at F
  dsimp only [curOwn] at N
  conv in (occs := *) fnBody _ => all_goals whnf
  conv in (occs := *) fnScope _ => all_goals whnf
  try dsimp only
  k_fold
  repeat' (first | (k_unfold; (try dsimp only)) | (k_end; wrow_close) | ((fail_if_success fail_if_success with_reducible show wpAny _ _ (call (Value.ref _) _ _) _ _ _); (k_dflt (refine w_unsigned (ks := ks) (by assumption) (by assumption) (by assumption) (by k_mem) (by k_mem) (fun _ _ => by k_upd) (by assumption) (by assumption) (by first | assumption | lia) (by first | assumption | lia) (by first | assumption | lia) (Rm.le (by assumption) (by decide)) (fun n' i'' hu' h' tk' t' ti' F' N' => ?_) (fun z' h' tk' ex' i' ti' x' n' => ?_) rfl))) | ((fail_if_success fail_if_success with_reducible show wpAny _ _ (leaving _ (Value.ref _)) _ _ _); (first | (k_dflt (refine leave_first (by assumption) (by assumption) (by assumption) (by assumption) (fun h'' x'' => ?_) rfl)) | (k_dflt (refine leave_next (by assumption) (by assumption) fun h'' x'' => ?_)))) | walk1 | (dsimp only; (first | ((fail_if_success fail_if_success with_reducible show wpAny _ _ (call (Value.ref _) _ _) _ _ _); (k_dflt (refine w_unsigned (ks := ks) (by assumption) (by assumption) (by assumption) (by k_mem) (by k_mem) (fun _ _ => by k_upd) (by assumption) (by assumption) (by first | assumption | lia) (by first | assumption | lia) (by first | assumption | lia) (Rm.le (by assumption) (by decide)) (fun n' i'' hu' h' tk' t' ti' F' N' => ?_) (fun z' h' tk' ex' i' ti' x' n' => ?_) rfl))) | ((fail_if_success fail_if_success with_reducible show wpAny _ _ (leaving _ (Value.ref _)) _ _ _); (first | (k_dflt (refine leave_first (by assumption) (by assumption) (by assumption) (by assumption) (fun h'' x'' => ?_) rfl)) | (k_dflt (refine leave_next (by assumption) (by assumption) fun h'' x'' => ?_)))) | walk1)) | (leave1; (try dsimp only)) | fail "no step")
  · exact hret _ _ _ _ _ ⟨_, _, by assumption, rfl⟩ (Over.of (by assumption) (by assumption))
  · exact hexc (by assumption) _ _ _ _ _ (by assumption)
theorem w_u32 {Q E : Value → Shared → Prop} {L f' : Addr} {m : PySem.Str → Option Value} {news : List (Addr × Obj)} {news' : Int → Tok → List (Addr × Obj)} {qual : PySem.Str} {scope : Scope} {cd : Value}
    (a : Amb w mean mg mb A base outer g) (F : Fr g L s.heap m) (N : News g L s.heap news) (hx : (x, instObj 183 dx) ∈ news) (hd : (dx, curD w bs i e t1 t2 t3 tb ti te) ∈ news)
    (U : ∀ i' ti', Upd dx (curD w bs i e t1 t2 t3 tb ti te) (curD w bs i' e t1 t2 t3 tb ti' te) news (news' i' ti')) (hlt : dx < x) (hb : KBw.bInts bs = ks) (h0 : 0 ≤ i) (he : e ≤ ks.length) (hz : ks.length ≤ 1000) (hr : Rm A 15)
    (hret : ∀ n i', u32P ks e i = some (n, i') → 0 ≤ n → n < 4294967296 → i < i' → i' ≤ e → ∀ h' tk' t ti', Fr g L h' m → News g L h' (news' i' ti') → Q (.int n t) { s with heap := h', toks := tk' })
    (hexc : u32P ks e i = none → ∀ h' tk' ex i' ti', Exc g outer (envOf qual scope L f' cd :: outer) ex (news' i' ti') h' → h'.Ns L m → E (.ref ex) { s with heap := h', toks := tk' })
    (hk : scope.kind = .function) : wpAny (MW w) (A.deeper (envOf qual scope L f' cd)) (call (.ref 145) [.ref x]) Q E s :=
  CurC.w (c_u32 hlt hb h0 he hz) a F N hx hd U hr (fun h' tk' v i' ti' r F' N' => by obtain ⟨n, t, h1, rfl⟩ := r; exact hret _ _ h1 (u32P_range hb h1).1 (u32P_range hb h1).2.1 (u32P_range hb h1).2.2.1 (u32P_range hb h1).2.2.2 _ _ _ _ F' N') hexc hk
end
-- Kw
/-- the head octet of a sign: octets that follow, the first bits, the least point of that length -/
noncomputable def headP (o : Int) : Option (Int × Int × Int) :=
  if o < 128 then some (0, o, 0) else if 192 ≤ o ∧ o < 224 then some (1, o % 32, 128) else if 224 ≤ o ∧ o < 240 then some (2, o % 16, 2048) else if 240 ≤ o ∧ o < 248 then some (3, o % 8, 65536) else none
theorem and_pow {o : Int} (k : Nat) (h : 0 ≤ o) : Builtin.bitAnd o (2 ^ k - 1 : Nat) = o % 2 ^ k := by
  rw [bitAnd_pp h (by lia)]
  have : o.toNat &&& (2 ^ k - 1) = o.toNat % 2 ^ k := Nat.and_two_pow_sub_one_eq_mod o.toNat k
  rw [Int.toNat_natCast, this]
  have e : ((o.toNat : Nat) : Int) = o := by lia
  rw [Int.natCast_emod, e]
  simp
theorem and63 {o : Int} (h : 0 ≤ o) : Builtin.bitAnd o 63 = o % 64 := and_pow 6 h
theorem and31 {o : Int} (h : 0 ≤ o) : Builtin.bitAnd o 31 = o % 32 := and_pow 5 h
theorem and15 {o : Int} (h : 0 ≤ o) : Builtin.bitAnd o 15 = o % 16 := and_pow 4 h
theorem and7 {o : Int} (h : 0 ≤ o) : Builtin.bitAnd o 7 = o % 8 := and_pow 3 h
noncomputable def tup3 (f p l : Value) : Obj := { cls := .type "tuple", data := .seq #[f, p, l] }
noncomputable def NeAll (d : Nat) : List (Addr × Obj) → Prop
  | [] => True
  | p :: r => @Ne Nat p.1 d ∧ NeAll d r
theorem NeAll.of {d : Nat} : ∀ {l : List (Addr × Obj)}, (∀ p ∈ l, p.1 ≠ d) → NeAll d l
  | [], _ => trivial
  | p :: r, h => ⟨h p (.head _), NeAll.of fun q hq => h q (.tail _ hq)⟩
section
variable {w : World} {mean : ExcName → Option Value} {mg mb : PySem.Str → Option Value} {A : Around} {base g : Heap} {outer : List Env} {s : Shared} {Q E : Value → Shared → Prop}
  {x dx : Nat} {bs : Array UInt8} {ks : List Int} {i e : Int} {t1 t2 t3 tb ti te : Tok}
theorem c_head {o at' : Int} {to ta : Tok} (h0 : 0 ≤ o) (h1 : o < 256) (a : Amb w mean mg mb A base outer g) (ov : Over g s []) (hr : Rm A 9)
    (hret : ∀ f p l, headP o = some (f, p, l) → ∀ h' tk' d t1 t2 t3, Over g { s with heap := h', toks := tk' } [(d, tup3 (.int f t1) (.int p t2) (.int l t3))] → Q (.ref d) { s with heap := h', toks := tk' })
    (hexc : headP o = none → ∀ h' tk' ex, Exc g outer outer ex [] h' → E (.ref ex) { s with heap := h', toks := tk' }) : wpAny (MW w) A (call (.ref 194) [.int o to, .int at' ta]) Q E s := by
  obtain ⟨hd, dp, fr, gd, un⟩ := A
  obtain rfl : hd = none := a.hh
  obtain rfl : fr = some outer := a.B.stack
  have X := a.X
  have T := a.T
  have B := a.B
  refine wpAny_call ?_
  refine' enter (binds := [(PySem.Str.ofString "octet", .int o to), (PySem.Str.ofString "at", Value.int at' ta)]) a ov ?k6 ?k7 ?k8 ?k9 ?kB ?_ ?c2 ?c3 ?c4 ?c5
  (case k6 => k_is)
  (case k7 => k_is)
  (case k8 => exact hr.depth)
  (case k9 => first | exact BindsTo.of_eq rfl | exact binds_K (a.X.keeps ov.st) rfl (by k_is) rfl rfl rfl)
  (case kB => exact locs rfl)
  (case c2 => exact rfl)
  (case c3 => exact rfl)
  (case c4 => exact rfl)
  (case c5 => decide)
  intro L F0 tk F N
  dsimp only [ifs, List.reverse, List.reverseAux] at F
  conv in (occs := *) fnBody _ => all_goals whnf
  conv in (occs := *) fnScope _ => all_goals whnf
  try dsimp only
  k_fold
  repeat' (first | (k_unfold; (try dsimp only)) | (k_end; wrow_close) | ((fail_if_success fail_if_success with_reducible show wpAny _ _ (leaving _ (Value.ref _)) _ _ _); (first | (k_dflt (refine leave_first (by assumption) (by assumption) (by assumption) (by assumption) (fun h'' x'' => ?_) rfl)) | (k_dflt (refine leave_next (by assumption) (by assumption) fun h'' x'' => ?_)))) | ((fail_if_success fail_if_success with_reducible show _ ∧ _); (refine ⟨rfl, by assumption, fun h' e' tk' mx' => ?_⟩)) | ((fail_if_success fail_if_success with_reducible show wpAny _ _ (exec (Stmt.Raise (some _) none _) _) _ _ _); (k_dflt (refine raise_K (by assumption) (by assumption) (Rm.le (by assumption) (by decide)) rfl ?_ rfl rfl rfl rfl))) | walk1 | (dsimp only; (first | ((fail_if_success fail_if_success with_reducible show wpAny _ _ (leaving _ (Value.ref _)) _ _ _); (first | (k_dflt (refine leave_first (by assumption) (by assumption) (by assumption) (by assumption) (fun h'' x'' => ?_) rfl)) | (k_dflt (refine leave_next (by assumption) (by assumption) fun h'' x'' => ?_)))) | ((fail_if_success fail_if_success with_reducible show _ ∧ _); (refine ⟨rfl, by assumption, fun h' e' tk' mx' => ?_⟩)) | ((fail_if_success fail_if_success with_reducible show wpAny _ _ (exec (Stmt.Raise (some _) none _) _) _ _ _); (k_dflt (refine raise_K (by assumption) (by assumption) (Rm.le (by assumption) (by decide)) rfl ?_ rfl rfl rfl rfl))) | walk1)) | (leave1; (try dsimp only)) | fail "no step")
  · exact hret 0 o 0 (by unfold headP; rw [if_pos (by assumption)]) _ _ _ _ _ _ (Over.of (by assumption) (by assumption))
  · exact hret 1 (Builtin.bitAnd o 31) 128 (by unfold headP; rw [if_neg (by lia), if_pos (by lia), and31 h0]) _ _ _ _ _ _ (Over.of (by assumption) (by assumption))
  · exact hret 2 (Builtin.bitAnd o 15) 2048 (by unfold headP; rw [if_neg (by lia), if_neg (by lia), if_pos (by lia), and15 h0]) _ _ _ _ _ _ (Over.of (by assumption) (by assumption))
  · exact hret 3 (Builtin.bitAnd o 7) 65536 (by unfold headP; rw [if_neg (by lia), if_neg (by lia), if_neg (by lia), if_pos (by lia), and7 h0]) _ _ _ _ _ _ (Over.of (by assumption) (by assumption))
  · exact hexc (by unfold headP; rw [if_neg (by lia), if_neg (by lia), if_neg (by lia), if_neg (by lia)]) _ _ _ (by assumption)
  · exact hexc (by unfold headP; rw [if_neg (by lia), if_neg (by lia), if_neg (by lia), if_neg (by lia)]) _ _ _ (by assumption)
theorem w_head {o at' : Int} {to ta : Tok} {L f' : Addr} {m : PySem.Str → Option Value} {news : List (Addr × Obj)} {qual : PySem.Str} {scope : Scope} {cd : Value}
    (a : Amb w mean mg mb A base outer g) (F : Fr g L s.heap m) (N : News g L s.heap news) (h0 : 0 ≤ o) (h1 : o < 256) (hr : Rm A 10)
    (hret : ∀ f p l, headP o = some (f, p, l) → ∀ h' tk' d t1 t2 t3, NeAll d news → Fr g L h' m → News g L h' ((d, tup3 (.int f t1) (.int p t2) (.int l t3)) :: news) → Q (.ref d) { s with heap := h', toks := tk' })
    (hexc : headP o = none → ∀ h' tk' ex, Exc g outer (envOf qual scope L f' cd :: outer) ex news h' → h'.Ns L m → E (.ref ex) { s with heap := h', toks := tk' })
    (hk : scope.kind = .function) : wpAny (MW w) (A.deeper (envOf qual scope L f' cd)) (call (.ref 194) [.int o to, .int at' ta]) Q E s := by
  have hin : ∀ p ∈ ([] : List (Addr × Obj)), p ∈ news := fun p hp => nomatch hp
  refine c_head h0 h1 (siteA a F N hin hk) (siteO N hin) hr.deeper (fun f p l z h' tk' d t1 t2 t3 o' => ?_) fun z h' tk' ex x' => ?_
  · obtain ⟨F', N'⟩ := site_back F N hin o' (news' := (d, tup3 (.int f t1) (.int p t2) (.int l t3)) :: news) (fun q hq => by
      rcases List.mem_cons.mp hq with rfl | hq
      · exact .inl (.head _)
      · exact .inr ⟨hq, by simp⟩)
    refine hret f p l z h' tk' d t1 t2 t3 (NeAll.of fun q hq e => ?_) F' N'
    have h1 := (o'.O _ (.head _)).2
    have h2 := hideAll_get ([] : List Addr) (N q hq).1 (by simp)
    rw [e] at h2
    rw [show gnd s.heap [] = hideAll s.heap [] from rfl, h2] at h1
    cases h1
  · obtain ⟨y, n'⟩ := exc_site a F N hin x' (news' := news) (fun q hq => .inr ⟨hq, by simp⟩)
    exact hexc z h' tk' ex y n'
end
-- Kp
section
variable {prog : Program} {w : World} {A : Around} {E : Value → Shared → Prop} {s : Shared} {env : Env} {h₀ : Heap} {x : PySem.Str} {body : List Stmt} {Q : Flow → Shared → Prop} {I : Addr}
theorem unrPost_mono {L : Addr} {s₁ s₂ : Shared} {it : Obj} {r r' : (PySem.Str → Option Value) → List (Addr × Obj) → Prop} {f : Flow} (h : ∀ m nx, r m nx → r' m nx) (u : UnrPost h₀ L s₁ I it r Q f s₂) : UnrPost h₀ L s₁ I it r' Q f s₂ := by
  have k : UnrEnd h₀ L s₁ I it r s₂ → UnrEnd h₀ L s₁ I it r' s₂ := fun ⟨h', tk, m', n', e, F, N, o, z⟩ => ⟨h', tk, m', n', e, F, N, o, h _ _ z⟩
  cases f with
  | ret v => exact u
  | brk => exact u
  | next => exact k u
  | cont => exact k u
theorem bytesRest_ind (J : List Int → (PySem.Str → Option Value) → List (Addr × Obj) → Prop)
    (h0 : ∀ m news, J [] m news → ∀ h tk, Fr h₀ env.locals h m → News h₀ env.locals h news → Q .next { s with heap := h, toks := tk })
    (h1 : ∀ c r m news, J (c :: r) m news → 0 ≤ c → c < 256 → ∀ (u : Tok) (it : Obj) h tk, Fr h₀ env.locals h (fun y => if y = x then some (.int c u) else m y) → News h₀ env.locals h ((I, it) :: news) →
      wpAny (model prog w) A (execs body env) (UnrPost h₀ env.locals { s with heap := h, toks := tk } I it (J r) Q) E { s with heap := h, toks := tk }) :
    ∀ l m news, J l m news → BytesRest prog w A E h₀ env x body Q s I l m news
  | [], m, news, j => h0 m news j
  | c :: r, m, news, j => fun a b u it h tk F N =>
    wpAny_mono (h1 c r m news j a b u it h tk F N) (fun _ _ z => unrPost_mono (bytesRest_ind J h0 h1 r) z) fun _ _ z => z
theorem rangeRest_ind {a : Int} {n : Nat} (J : Nat → Nat → (PySem.Str → Option Value) → List (Addr × Obj) → Prop)
    (h0 : ∀ i m news, J 0 i m news → ∀ h tk, Fr h₀ env.locals h m → News h₀ env.locals h news → Q .next { s with heap := h, toks := tk })
    (h1 : ∀ k i m news, J (k + 1) i m news → ∀ (t : Tok) h tk, Fr h₀ env.locals h (fun y => if y = x then some (.int (a + (i : Int)) t) else m y) →
      News h₀ env.locals h ((I, itR (a + ((i + 1 : Nat) : Int)) ((n : Int) - ((i + 1 : Nat) : Int))) :: news) →
      wpAny (model prog w) A (execs body env) (UnrPost h₀ env.locals { s with heap := h, toks := tk } I (itR (a + ((i + 1 : Nat) : Int)) ((n : Int) - ((i + 1 : Nat) : Int))) (J k (i + 1)) Q) E { s with heap := h, toks := tk }) :
    ∀ k i m news, J k i m news → RangeRest prog w A E h₀ env x body Q s I a n k i m news
  | 0, i, m, news, j => h0 i m news j
  | k + 1, i, m, news, j => fun t h tk F N =>
    wpAny_mono (h1 k i m news j t h tk F N) (fun _ _ z => unrPost_mono (rangeRest_ind J h0 h1 k (i + 1)) z) fun _ _ z => z
end
-- La
noncomputable def contP : List Int → Int → Option Int
  | [], p => some p
  | o :: r, p => if 128 ≤ o ∧ o < 192 then contP r (p * 64 + o % 64) else none
noncomputable def stepP (ks : List Int) (i : Int) : Option (Int × Int) :=
  (headP (ks.getD i.toNat 0)).bind fun h =>
    if ks.length ≤ i + h.1 then none
    else (contP ((ks.drop (i + 1).toNat).take h.1.toNat) h.2.1).bind fun q =>
      if q < h.2.2 ∨ 1114111 < q ∨ (55296 ≤ q ∧ q < 57344) then none else some (q, i + 1 + h.1)
noncomputable def utf8P (ks : List Int) : Nat → Int → Option (List Int)
  | 0, i => if i < ks.length then none else some []
  | n + 1, i => if i < ks.length then (stepP ks i).bind fun r => (utf8P ks n r.2).map (r.1 :: ·) else some []
theorem headP_follow {o f p l : Int} (h : headP o = some (f, p, l)) : 0 ≤ f ∧ f ≤ 3 := by
  unfold headP at h
  split at h
  · cases h; decide
  · split at h
    · cases h; decide
    · split at h
      · cases h; decide
      · split at h
        · cases h; decide
        · cases h
theorem headP_lt {o f p l : Int} (h0 : 0 ≤ o) (h : headP o = some (f, p, l)) : p < 128 := by
  unfold headP at h
  split at h
  · cases h; lia
  · split at h
    · cases h; lia
    · split at h
      · cases h; lia
      · split at h
        · cases h; lia
        · cases h
theorem stepP_head {ks : List Int} {i : Int} (h : headP (ks.getD i.toNat 0) = none) : stepP ks i = none := by
  unfold stepP; rw [h]; rfl
theorem stepP_short {ks : List Int} {i f p l : Int} (h : headP (ks.getD i.toNat 0) = some (f, p, l)) (hs : ks.length ≤ i + f) : stepP ks i = none := by
  unfold stepP; rw [h]; exact if_pos hs
theorem stepP_eq {ks : List Int} {i f p l : Int} (h : headP (ks.getD i.toNat 0) = some (f, p, l)) (h0 : 0 ≤ i) (hs : ¬ ks.length ≤ i + f) : stepP ks i =
    (contP ((ks.drop (i + 1).toNat).take ((i + 1 + f).toNat - (i + 1).toNat)) p).bind fun q => if q < l ∨ 1114111 < q ∨ (55296 ≤ q ∧ q < 57344) then none else some (q, i + 1 + f) := by
  have hf := headP_follow h
  unfold stepP; rw [h]
  show (if ks.length ≤ i + f then none else _) = _
  rw [if_neg hs, show (i + 1 + f).toNat - (i + 1).toNat = f.toNat by lia]
theorem utf8P_none {ks : List Int} {i : Int} (h : stepP ks i = none) (hi : i < ks.length) : ∀ k, utf8P ks k i = none
  | 0 => if_pos hi
  | k + 1 => by unfold utf8P; rw [if_pos hi, h]; rfl
theorem utf8P_some {ks : List Int} {i q j : Int} (h : stepP ks i = some (q, j)) (hi : i < ks.length) (k : Nat) : utf8P ks (k + 1) i = (utf8P ks k j).map (q :: ·) := by
  rw [utf8P, if_pos hi, h]; rfl
theorem utf8P_end {ks : List Int} {i : Int} (hi : ¬ i < ks.length) : ∀ k, utf8P ks k i = some []
  | 0 => if_neg hi
  | k + 1 => if_neg hi
theorem stepP_gt {ks : List Int} {i q j : Int} (h : stepP ks i = some (q, j)) : i < j := by
  unfold stepP at h
  cases hh : headP (ks.getD i.toNat 0) with
  | none => rw [hh] at h; cases h
  | some r =>
    obtain ⟨f, p, l⟩ := r
    have hf := headP_follow hh
    rw [hh] at h
    dsimp only [Option.bind] at h
    split at h
    · cases h
    · cases hc : contP ((ks.drop (i + 1).toNat).take f.toNat) p with
      | none => rw [hc] at h; cases h
      | some q' =>
        rw [hc] at h
        dsimp only at h
        split at h
        · cases h
        · cases h; lia
theorem utf8P_enough {ks : List Int} : ∀ {n k : Nat} {i : Int}, n ≤ k → ks.length ≤ i + n → utf8P ks k i = utf8P ks n i
  | 0, k, i, _, h => by rw [utf8P_end (by lia), utf8P_end (by lia)]
  | n + 1, k + 1, i, h, h' => by
    rw [utf8P, utf8P]
    split
    · cases hs : stepP ks i with
      | none => rfl
      | some r =>
        obtain ⟨q, j⟩ := r
        have := stepP_gt hs
        show (utf8P ks k j).map _ = (utf8P ks n j).map _
        rw [utf8P_enough (n := n) (k := k) (by lia) (by lia)]
    · rfl
theorem utf8P_next {ks : List Int} {i q j : Int} {n k : Nat} (h : stepP ks i = some (q, j)) (hi : i < ks.length) (hn : n = (ks.length - i).toNat) (hk : (ks.length - j).toNat ≤ k) : utf8P ks n i = (utf8P ks k j).map (q :: ·) := by
  have := stepP_gt h
  obtain ⟨m, rfl⟩ : ∃ m, n = m + 1 := ⟨n - 1, by lia⟩
  rw [utf8P_some h hi, utf8P_enough (n := (ks.length - j).toNat) (k := k) hk (by lia), utf8P_enough (n := (ks.length - j).toNat) (k := m) (by lia) (by lia)]
theorem and192 : ∀ c : Int, 0 ≤ c → c < 256 → (Builtin.bitAnd c 192 = 128 ↔ 128 ≤ c ∧ c < 192) := by
  intro c h0 h1
  obtain ⟨n, rfl⟩ := Int.eq_ofNat_of_zero_le h0
  rw [bitAnd_pp (by lia) (by decide)]
  have k : ∀ n : Fin 256, ((n.val &&& 192) = 128 ↔ 128 ≤ n.val ∧ n.val < 192) := by decide +kernel
  have := k ⟨n, by lia⟩
  simp only [Int.ofNat_eq_natCast, Int.toNat_natCast] at *
  show ((n &&& 192 : Nat) : Int) = 128 ↔ _
  lia
theorem and_apart {n k : Nat} (hl : k < 2 ^ 6) : 2 ^ 6 * n &&& k = 0 := by
  apply Nat.eq_of_testBit_eq
  intro j
  rw [Nat.testBit_and, Nat.testBit_two_pow_mul, Nat.zero_testBit]
  by_cases h : 6 ≤ j
  · rw [Nat.testBit_lt_two_pow (Nat.lt_of_lt_of_le hl (Nat.pow_le_pow_right (by decide) h))]; simp
  · simp [h]
theorem or_six {p c : Int} (hp : 0 ≤ p) (hc : 0 ≤ c) : Builtin.bitOr (p * 2 ^ Int.toNat 6) (Builtin.bitAnd c 63) = p * 64 + c % 64 := by
  rw [and63 hc]
  have e : p * 2 ^ Int.toNat 6 = p * 64 := rfl
  rw [e, bitOr_and, bitAnd_pp (by lia) (by lia)]
  have := and_apart (n := p.toNat) (k := (c % 64).toNat) (by lia)
  rw [show (p * 64).toNat = 2 ^ 6 * p.toNat by lia, this]
  simp
theorem headP_nonneg {o f p l : Int} (h0 : 0 ≤ o) (h : headP o = some (f, p, l)) : 0 ≤ p := by
  unfold headP at h
  split at h
  · cases h; lia
  · split at h
    · cases h; lia
    · split at h
      · cases h; lia
      · split at h
        · cases h; lia
        · cases h
noncomputable def ch1 (c : Int) : PySem.Str := ⟨#[c.toNat]⟩
theorem contP_bad {c p : Int} {r : List Int} (h0 : 0 ≤ c) (h1 : c < 256) (h : Builtin.bitAnd c 192 ≠ 128) : contP (c :: r) p = none := by
  unfold contP; exact if_neg fun q => h ((and192 c h0 h1).mpr q)
theorem contP_good {c p : Int} {r : List Int} (h0 : 0 ≤ c) (h1 : c < 256) (h : Builtin.bitAnd c 192 = 128) (hp : 0 ≤ p) : contP (c :: r) p = contP r (Builtin.bitOr (p * 2 ^ Int.toNat 6) (Builtin.bitAnd c 63)) := by
  rw [contP, if_pos ((and192 c h0 h1).mp h), or_six hp h0]
noncomputable def strOf (cs : List Int) : PySem.Str := ⟨(cs.map Int.toNat).toArray⟩
theorem strOf_cons (c : Int) (r : List Int) : strOf (c :: r) = ch1 c ++ strOf r := by
  show (⟨((c :: r).map Int.toNat).toArray⟩ : PySem.Str) = ⟨#[c.toNat] ++ (r.map Int.toNat).toArray⟩
  simp
theorem str_nil_app (x : PySem.Str) : PySem.Str.ofString "" ++ x = x := by
  show (⟨(PySem.Str.ofString "").cps ++ x.cps⟩ : PySem.Str) = x
  have : (PySem.Str.ofString "").cps = #[] := by decide
  rw [this]; simp
theorem str_app_nil (x : PySem.Str) : x ++ PySem.Str.ofString "" = x := by
  show (⟨x.cps ++ (PySem.Str.ofString "").cps⟩ : PySem.Str) = x
  have : (PySem.Str.ofString "").cps = #[] := by decide
  rw [this]; simp
theorem join_ch1 (cs : List Int) : PySem.Txt.join (PySem.Str.ofString "") (cs.map ch1) = strOf cs := by
  show Builtin.Str.glued (PySem.Str.ofString "") (cs.map ch1) = _
  rw [StrLaws.glued_eq_join]
  induction cs with
  | nil => rfl
  | cons c r ih =>
    cases r with
    | nil => rfl
    | cons d r =>
      show ch1 c ++ PySem.Str.ofString "" ++ PySem.Str.join (PySem.Str.ofString "") ((d :: r).map ch1) = _
      rw [ih, str_app_nil, ← strOf_cons]
inductive JT (bs : Array UInt8) (ks : List Int) (bg : Int) (tb tg : Tok) (n : Nat) (m : PySem.Str → Option Value) (news : List (Addr × Obj)) : Prop
  | mk (i : Int) (cs : List Int) (ys : List Value) (l : Addr) (nn : Nat) (ti : Tok) (h1 : 0 ≤ i) (h2 : i ≤ ks.length) (h3 : n = (ks.length - i).toNat) (h4 : cs.length ≤ i) (h5 : (∀ k, n ≤ k → (utf8P ks k i).map (cs ++ ·) = utf8P ks ks.length 0)) (h6 : CarriedAll ys (cs.map fun c => PyData.str (ch1 c))) (h7 : AllOn m [(PySem.Str.ofString "signs", .ref l), (PySem.Str.ofString "at", .int i ti), (PySem.Str.ofString "begin", .int bg tg), (PySem.Str.ofString "octets", .bytes bs tb)]) (h8 : news = [(l, W.listOf ys.toArray nn)]) : JT bs ks bg tb tg n m news
inductive JB (bs : Array UInt8) (bg : Int) (tb tg : Tok) (i : Int) (ti : Tok) (l : Addr) (ys : List Value) (nn : Nat) (f lv : Int) (tf tl : Tok) (X : Option Int) (r : List Int) (m : PySem.Str → Option Value) (news : List (Addr × Obj)) : Prop
  | mk (p : Int) (tp : Tok) (h1 : contP r p = X) (h2 : 0 ≤ p) (h3 : r.length ≤ 3) (h4 : p < 128 * 64 ^ (3 - r.length)) (h5 : AllOn m [(PySem.Str.ofString "least", .int lv tl), (PySem.Str.ofString "point", .int p tp), (PySem.Str.ofString "follow", .int f tf), (PySem.Str.ofString "signs", .ref l), (PySem.Str.ofString "at", .int i ti), (PySem.Str.ofString "begin", .int bg tg), (PySem.Str.ofString "octets", .bytes bs tb)]) (h6 : news = [(l, W.listOf ys.toArray nn)]) : JB bs bg tb tg i ti l ys nn f lv tf tl X r m news
section
variable {w : World} {mean : ExcName → Option Value} {mg mb : PySem.Str → Option Value} {A : Around} {base g : Heap} {outer : List Env} {s : Shared} {Q E : Value → Shared → Prop}
  {x dx : Nat} {bs : Array UInt8} {ks : List Int} {i e : Int} {t1 t2 t3 tb ti te : Tok}
theorem c_text {bg : Int} {tb tg : Tok} (hb : KBw.bInts bs = ks) (hz : ks.length ≤ 1000) (a : Amb w mean mg mb A base outer g) (o : Over g s []) (hr : Rm A 12)
    (hret : ∀ cs, utf8P ks ks.length 0 = some cs → ∀ h' tk' t, Over g { s with heap := h', toks := tk' } [] → Q (.str (strOf cs) t) { s with heap := h', toks := tk' })
    (hexc : utf8P ks ks.length 0 = none → ∀ h' tk' ex, Exc g outer outer ex [] h' → E (.ref ex) { s with heap := h', toks := tk' }) : wpAny (MW w) A (call (.ref 202) [.bytes bs tb, .int bg tg]) Q E s := by
  obtain ⟨hd, dp, fr, gd, un⟩ := A
  obtain rfl : hd = none := a.hh
  obtain rfl : fr = some outer := a.B.stack
  have X := a.X
  have T := a.T
  have B := a.B
  refine wpAny_call ?_
  refine' enter (binds := [(PySem.Str.ofString "octets", .bytes bs tb), (PySem.Str.ofString "begin", .int bg tg)]) a o ?k6 ?k7 ?k8 ?k9 ?kB ?_ ?c2 ?c3 ?c4 ?c5
  (case k6 => k_is)
  (case k7 => k_is)
  (case k8 => exact hr.depth)
  (case k9 => first | exact BindsTo.of_eq rfl | exact binds_K (a.X.keeps o.st) rfl (by k_is) rfl rfl rfl)
  (case kB => exact locs rfl)
  (case c2 => exact rfl)
  (case c3 => exact rfl)
  (case c4 => exact rfl)
  (case c5 => decide)
  intro L F0 tk F N
  dsimp only [ifs, List.reverse, List.reverseAux] at F
  conv in (occs := *) fnBody _ => all_goals whnf
  conv in (occs := *) fnScope _ => all_goals whnf
  try dsimp only
  k_fold
  iterate 21 walk1
  rotate_left
  rename Fr _ _ _ _ => F1
  rename News _ _ _ _ => N1
  refine While_inv2 (JT bs ks bg tb tg) (n₀ := ks.length) F1 (News_sub N1 (fun p hp => .tail _ hp)) ⟨0, [], [], _, _, _, by decide, by lia, by lia, by decide, ?_, .nil, ⟨rfl, rfl, rfl, rfl, trivial⟩, rfl⟩ ?_
  · intro k hk
    rw [utf8P_enough hk (by lia)]; cases utf8P ks ks.length 0 <;> rfl
  clear F1 N1
  intro n m₁ news₁ h₁ tk₁ F₁ N₁ J₁
  obtain ⟨i, cs, ys, l, nn, ti, hi0, hi1, hn, hcs, hu, hc, hm, rfl⟩ := J₁
  replace F₁ := Fr_on F₁ hm
  dsimp only [ifsE] at F₁
  have hby := byte_in hb i.toNat
  iterate 73 (first | ((fail_if_success fail_if_success with_reducible show wpAny _ _ (call (Value.ref _) _ _) _ _ _); (k_dflt (refine w_head (by assumption) (by assumption) (by assumption) (by first | assumption | lia) (by first | assumption | lia) (Rm.le (by assumption) (by decide)) (fun f' p' l' hp' h' tk' d' t1' t2' t3' ne' F' N' => ?_) (fun z' h' tk' ex' x' n' => ?_) rfl); (try (simp only [NeAll, and_true] at ne')))) | ((fail_if_success fail_if_success with_reducible show wpAny _ _ (leaving _ (Value.ref _)) _ _ _); (first | (k_dflt (refine leave_first (by assumption) (by assumption) (by assumption) (by assumption) (fun h'' x'' => ?_) rfl)) | (k_dflt (refine leave_next (by assumption) (by assumption) fun h'' x'' => ?_)))) | ((fail_if_success fail_if_success with_reducible show _ ∧ _); (refine ⟨rfl, by assumption, fun h' e' tk' mx' => ?_⟩)) | ((fail_if_success fail_if_success with_reducible show wpAny _ _ (exec (Stmt.Raise (some _) none _) _) _ _ _); (k_dflt (refine raise_K (by assumption) (by assumption) (Rm.le (by assumption) (by decide)) rfl ?_ rfl rfl rfl rfl))) | walk1)
  rotate_left
  iterate 3 walk1
  rotate_left
  iterate 1 (first | ((fail_if_success fail_if_success with_reducible show wpAny _ _ (leaving _ (Value.ref _)) _ _ _); (first | (k_dflt (refine leave_first (by assumption) (by assumption) (by assumption) (by assumption) (fun h'' x'' => ?_) rfl)) | (k_dflt (refine leave_next (by assumption) (by assumption) fun h'' x'' => ?_)))) | walk1)
  rotate_left
  iterate 11 walk1
  rotate_left
  · exact hexc (by rw [← hu n (Nat.le_refl _), utf8P_none (stepP_short (by assumption) (by assumption)) (by assumption)]; rfl) _ _ _ (Exc.sub (by assumption) (fun q hq => nomatch hq))
  · rename Fr _ _ _ _ => F2
    refine' For_invVF F2 ?k1 ?k2 ?_
    (case k1 => exact rfl)
    (case k2 => exact rfl)
    iterate 18 walk1
    rotate_left
    rename KBw.bInts (KBy.picked _ _ _) = _ => kbcK
    have hf := headP_follow (by assumption)
    rw [clip_in (by lia) (by lia), clip_in (by lia) (by lia)] at kbcK
    rename Fr _ _ _ _ => F3
    rename News _ _ _ _ => N3
    refine iter_bytesUnr rfl F3 (News_sub N3 (fun q hq => .tail _ hq)) kbcK fun I lI => ?_
    (repeat (rename Fr _ _ _ _ => zz; clear zz)); (repeat (rename News _ _ _ _ => zz; clear zz))
    k_lt lI
    rename headP _ = some _ => hp
    refine bytesRest_ind (JB bs bg tb tg i ti l ys nn _ _ _ _ _) ?h0 ?h1 _ _ _ ⟨_, _, rfl, headP_nonneg hby.1 hp, (by rw [List.length_take]; lia), ?hB, ⟨rfl, rfl, rfl, rfl, rfl, rfl, rfl, trivial⟩, rfl⟩
    (case hB =>
      have h7 := headP_lt hby.1 hp
      have h8 : ∀ k : Nat, (128 : Int) ≤ 128 * 64 ^ k := fun k => by have := Int.pow_pos (n := 64) (m := k) (by decide); lia
      exact Int.lt_of_lt_of_le h7 (h8 _))
    case h0 =>
      have hst := stepP_eq hp hi0 (by assumption)
      intro m₂ news₂ J h₂ tk₂ F₂ N₂
      obtain ⟨p, tp, hp1, hp2, hp3, hp4, hm2, rfl⟩ := J
      replace F₂ : Fr g L h₂ _ := Fr_on F₂ hm2
      dsimp only [ifsE] at F₂
      rw [← hp1] at hst
      dsimp only [contP, Option.bind] at hst
      repeat' (first | (k_unfold; (try dsimp only)) | (k_end; wrow_close) | ((fail_if_success fail_if_success with_reducible show wpAny _ _ (leaving _ (Value.ref _)) _ _ _); (first | (k_dflt (refine leave_first (by assumption) (by assumption) (by assumption) (by assumption) (fun h'' x'' => ?_) rfl)) | (k_dflt (refine leave_next (by assumption) (by assumption) fun h'' x'' => ?_)))) | ((fail_if_success fail_if_success with_reducible show _ ∧ _); (refine ⟨rfl, by assumption, fun h' e' tk' mx' => ?_⟩)) | ((fail_if_success fail_if_success with_reducible show wpAny _ _ (exec (Stmt.Raise (some _) none _) _) _ _ _); (k_dflt (refine raise_K (by assumption) (by assumption) (Rm.le (by assumption) (by decide)) rfl ?_ rfl rfl rfl rfl))) | walk1 | (dsimp only; (first | ((fail_if_success fail_if_success with_reducible show wpAny _ _ (leaving _ (Value.ref _)) _ _ _); (first | (k_dflt (refine leave_first (by assumption) (by assumption) (by assumption) (by assumption) (fun h'' x'' => ?_) rfl)) | (k_dflt (refine leave_next (by assumption) (by assumption) fun h'' x'' => ?_)))) | ((fail_if_success fail_if_success with_reducible show _ ∧ _); (refine ⟨rfl, by assumption, fun h' e' tk' mx' => ?_⟩)) | ((fail_if_success fail_if_success with_reducible show wpAny _ _ (exec (Stmt.Raise (some _) none _) _) _ _ _); (k_dflt (refine raise_K (by assumption) (by assumption) (Rm.le (by assumption) (by decide)) rfl ?_ rfl rfl rfl rfl))) | walk1)) | (leave1; (try dsimp only)) | fail "no step")
      · rw [if_pos (.inl (by assumption))] at hst
        exact hexc (by rw [← hu n (Nat.le_refl _), utf8P_none hst (by assumption)]; rfl) _ _ _ (Exc.sub (by assumption) (fun q hq => nomatch hq))
      · rw [if_pos (.inr (.inl (by assumption)))] at hst
        exact hexc (by rw [← hu n (Nat.le_refl _), utf8P_none hst (by assumption)]; rfl) _ _ _ (Exc.sub (by assumption) (fun q hq => nomatch hq))
      · rw [if_pos (.inr (.inr ⟨by assumption, by assumption⟩))] at hst
        exact hexc (by rw [← hu n (Nat.le_refl _), utf8P_none hst (by assumption)]; rfl) _ _ _ (Exc.sub (by assumption) (fun q hq => nomatch hq))
      all_goals
        rw [if_neg (by lia)] at hst
        rename Fr _ _ _ _ => F4
        rename News _ _ _ _ => N4
        rw [List.push_toArray] at N4
        refine wnext (n' := ((ks.length : Int) - _).toNat) F4 N4 ?_ ⟨_, cs ++ [p], _, l, _, _, ?_, ?_, rfl, ?_, ?_, (by rw [List.map_append]; exact CarriedAll.snoc hc (Carried.str _ _)), ⟨rfl, rfl, rfl, rfl, trivial⟩, rfl⟩
        · lia
        · lia
        · lia
        · rw [List.length_append]; simp; lia
        · intro k hk
          rw [← hu n (Nat.le_refl _), utf8P_next hst (by assumption) hn hk]
          cases utf8P ks k _ <;> simp
    case h1 =>
      intro c r m₂ news₂ J hc0 hc1 u it h₂ tk₂ F₂ N₂
      obtain ⟨p, tp, hp1, hp2, hp3, hp4, hm2, rfl⟩ := J
      replace F₂ : Fr g L h₂ _ := Fr_on F₂ (l := [(PySem.Str.ofString "octet", .int c u), (PySem.Str.ofString "least", .int _ _), (PySem.Str.ofString "point", .int p tp), (PySem.Str.ofString "follow", .int _ _), (PySem.Str.ofString "signs", .ref l), (PySem.Str.ofString "at", .int i ti), (PySem.Str.ofString "begin", .int bg tg), (PySem.Str.ofString "octets", .bytes bs tb)]) ⟨rfl, hm2⟩
      replace N₂ : News g L h₂ _ := N₂
      dsimp only [ifsE] at F₂
      rw [List.length_cons] at hp3 hp4
      have hp5 : p < 524288 := Int.lt_of_lt_of_le hp4 (by
        match r, hp3 with
        | [], _ => exact (by decide : (128 : Int) * 64 ^ 2 ≤ 524288)
        | [_], _ => exact (by decide : (128 : Int) * 64 ^ 1 ≤ 524288)
        | [_, _], _ => exact (by decide : (128 : Int) * 64 ^ 0 ≤ 524288))
      repeat' (first | (k_unfold; (try dsimp only)) | (k_end; wrow_close) | ((fail_if_success fail_if_success with_reducible show wpAny _ _ (leaving _ (Value.ref _)) _ _ _); (first | (k_dflt (refine leave_first (by assumption) (by assumption) (by assumption) (by assumption) (fun h'' x'' => ?_) rfl)) | (k_dflt (refine leave_next (by assumption) (by assumption) fun h'' x'' => ?_)))) | ((fail_if_success fail_if_success with_reducible show _ ∧ _); (refine ⟨rfl, by assumption, fun h' e' tk' mx' => ?_⟩)) | ((fail_if_success fail_if_success with_reducible show wpAny _ _ (exec (Stmt.Raise (some _) none _) _) _ _ _); (k_dflt (refine raise_K (by assumption) (by assumption) (Rm.le (by assumption) (by decide)) rfl ?_ rfl rfl rfl rfl))) | walk1 | (dsimp only; (first | ((fail_if_success fail_if_success with_reducible show wpAny _ _ (leaving _ (Value.ref _)) _ _ _); (first | (k_dflt (refine leave_first (by assumption) (by assumption) (by assumption) (by assumption) (fun h'' x'' => ?_) rfl)) | (k_dflt (refine leave_next (by assumption) (by assumption) fun h'' x'' => ?_)))) | ((fail_if_success fail_if_success with_reducible show _ ∧ _); (refine ⟨rfl, by assumption, fun h' e' tk' mx' => ?_⟩)) | ((fail_if_success fail_if_success with_reducible show wpAny _ _ (exec (Stmt.Raise (some _) none _) _) _ _ _); (k_dflt (refine raise_K (by assumption) (by assumption) (Rm.le (by assumption) (by decide)) rfl ?_ rfl rfl rfl rfl))) | walk1)) | (leave1; (try dsimp only)) | fail "no step")
      · rw [contP_bad hc0 hc1 (by assumption)] at hp1
        have hst := stepP_eq hp hi0 (by assumption)
        rw [← hp1] at hst
        exact hexc (by rw [← hu n (Nat.le_refl _), utf8P_none hst (by assumption)]; rfl) _ _ _ (Exc.sub (by assumption) (fun q hq => nomatch hq))
      · rw [contP_good hc0 hc1 (by assumption) hp2] at hp1
        rename Fr _ _ _ _ => F4
        rename News _ _ _ _ => N4
        have e6 := or_six hp2 hc0
        refine UnrEnd.intro F4 N4 [(l, W.listOf ys.toArray nn)] (fun q hq => hq) (fun q hq e => ?_) ⟨_, _, hp1, by lia, by lia, ?_, ⟨rfl, rfl, rfl, rfl, rfl, rfl, rfl, trivial⟩, rfl⟩
        · rw [List.mem_singleton.mp hq] at e
          exact absurd e (Nat.ne_of_lt lI)
        · rw [e6]
          match r, hp3, hp4 with
          | [], _, hp4 => simp at *; lia
          | [_], _, hp4 => simp at *; lia
          | [_, _], _, hp4 => simp at *; lia
  · exact hexc (by rw [← hu n (Nat.le_refl _), utf8P_none (stepP_head (by assumption)) (by assumption)]; rfl) _ _ _ (Exc.sub (by assumption) (fun q hq => nomatch hq))
  · rw [join_ch1]
    exact hret _ (by rw [← hu n (Nat.le_refl _), utf8P_end (by assumption)]; simp) _ _ _ (Over.of (by assumption) (fun q hq => nomatch hq))
end
-- Lb
noncomputable def nameP (ks : List Int) (e i : Int) : Option (List Int × Int) :=
  (u32P ks e i).bind fun r => if e - r.2 < r.1 then none else (utf8P ((ks.drop r.2.toNat).take r.1.toNat) ((ks.drop r.2.toNat).take r.1.toNat).length 0).map (·, r.2 + r.1)
theorem nameP_u {ks : List Int} {e i : Int} (h : u32P ks e i = none) : nameP ks e i = none := by unfold nameP; rw [h]; rfl
theorem nameP_long {ks : List Int} {e i n j : Int} (h : u32P ks e i = some (n, j)) (hl : e - j < n) : nameP ks e i = none := by
  unfold nameP; rw [h]; exact if_pos hl
theorem nameP_eq {ks : List Int} {e i n j : Int} (h : u32P ks e i = some (n, j)) (hl : ¬ e - j < n) : nameP ks e i = (utf8P ((ks.drop j.toNat).take n.toNat) ((ks.drop j.toNat).take n.toNat).length 0).map (·, j + n) := by
  unfold nameP; rw [h]; exact if_neg hl
theorem nameP_range {ks : List Int} {e i j : Int} {cs : List Int} {bs : Array UInt8} (hb : KBw.bInts bs = ks) (h : nameP ks e i = some (cs, j)) : i < j ∧ j ≤ e := by
  cases hu : u32P ks e i with
  | none => rw [nameP_u hu] at h; cases h
  | some r =>
    obtain ⟨n, k⟩ := r
    have := u32P_range hb hu
    by_cases hl : e - k < n
    · rw [nameP_long hu hl] at h; cases h
    · rw [nameP_eq hu hl] at h
      cases hq : utf8P ((ks.drop k.toNat).take n.toNat) ((ks.drop k.toNat).take n.toNat).length 0 with
      | none => rw [hq] at h; cases h
      | some cs' => rw [hq] at h; cases h; lia
section
variable {w : World} {mean : ExcName → Option Value} {mg mb : PySem.Str → Option Value} {A : Around} {base g : Heap} {outer : List Env} {s : Shared} {Q E : Value → Shared → Prop}
  {x dx : Nat} {bs : Array UInt8} {ks : List Int} {i e : Int} {t1 t2 t3 tb ti te : Tok}
theorem w_text {bg : Int} {tb tg : Tok} {L f' : Addr} {m : PySem.Str → Option Value} {news : List (Addr × Obj)} {qual : PySem.Str} {scope : Scope} {cd : Value}
    (a : Amb w mean mg mb A base outer g) (F : Fr g L s.heap m) (N : News g L s.heap news) (hb : KBw.bInts bs = ks) (hz : ks.length ≤ 1000) (hr : Rm A 13)
    (hret : ∀ cs, utf8P ks ks.length 0 = some cs → ∀ h' tk' t, Fr g L h' m → News g L h' news → Q (.str (strOf cs) t) { s with heap := h', toks := tk' })
    (hexc : utf8P ks ks.length 0 = none → ∀ h' tk' ex, Exc g outer (envOf qual scope L f' cd :: outer) ex news h' → h'.Ns L m → E (.ref ex) { s with heap := h', toks := tk' })
    (hk : scope.kind = .function) : wpAny (MW w) (A.deeper (envOf qual scope L f' cd)) (call (.ref 202) [.bytes bs tb, .int bg tg]) Q E s := by
  have hin : ∀ p ∈ ([] : List (Addr × Obj)), p ∈ news := fun p hp => nomatch hp
  refine c_text hb hz (siteA a F N hin hk) (siteO N hin) hr.deeper (fun cs z h' tk' t o' => ?_) fun z h' tk' ex x' => ?_
  · obtain ⟨F', N'⟩ := site_back F N hin o' (news' := news) (fun q hq => .inr ⟨hq, by simp⟩)
    exact hret cs z h' tk' t F' N'
  · obtain ⟨y, n'⟩ := exc_site a F N hin x' (news' := news) (fun q hq => .inr ⟨hq, by simp⟩)
    exact hexc z h' tk' ex y n'
theorem c_name (hlt : dx < x) (hb : KBw.bInts bs = ks) (h0 : 0 ≤ i) (he : e ≤ ks.length) (hz : ks.length ≤ 1000) : CurC w 180 [.ref x] 17 x dx bs e t1 t2 t3 tb te i ti (fun v i' ti' => ∃ cs t, nameP ks e i = some (cs, i') ∧ v = .str (strOf cs) t) (nameP ks e i = none) := by
  intro mean mg mb A base g outer s Q E a o hr hret hexc
  obtain ⟨hd, dp, fr, gd, un⟩ := A
  obtain rfl : hd = none := a.hh
  obtain rfl : fr = some outer := a.B.stack
  have X := a.X
  have T := a.T
  have B := a.B
  refine wpAny_call ?_
  refine' enter (binds := [(PySem.Str.ofString "self", .ref x)]) a o ?k6 ?k7 ?k8 ?k9 ?kB ?_ ?c2 ?c3 ?c4 ?c5
  (case k6 => k_is)
  (case k7 => k_is)
  (case k8 => exact hr.depth)
  (case k9 => first | exact BindsTo.of_eq rfl | exact binds_K (a.X.keeps o.st) rfl (by k_is) rfl rfl rfl)
  (case kB => exact locs rfl)
  (case c2 => exact rfl)
  (case c3 => exact rfl)
  (case c4 => exact rfl)
  (case c5 => decide)
  intro L F0 tk F N
  dsimp only [ifs, List.reverse, List.reverseAux] at F
  dsimp only [curOwn] at N
  conv in (occs := *) fnBody _ => all_goals whnf
  conv in (occs := *) fnScope _ => all_goals whnf
  try dsimp only
  k_fold
  repeat' (first | (k_unfold; (try dsimp only)) | (k_end; wrow_close) | ((fail_if_success fail_if_success with_reducible show wpAny _ _ (call (Value.ref _) _ _) _ _ _); (k_dflt (refine w_text (by assumption) (by assumption) (by assumption) (by assumption) (by first | assumption | (rw [List.length_take, List.length_drop]; lia)) (Rm.le (by assumption) (by decide)) (fun cs' hp' h' tk' t' F' N' => ?_) (fun z' h' tk' ex' x' n' => ?_) rfl))) | ((fail_if_success fail_if_success with_reducible show wpAny _ _ (call (Value.ref _) _ _) _ _ _); (k_dflt (refine w_u32 (ks := ks) (by assumption) (by assumption) (by assumption) (by k_mem) (by k_mem) (fun _ _ => by k_upd) (by assumption) (by assumption) (by first | assumption | lia) (by first | assumption | lia) (by first | assumption | lia) (Rm.le (by assumption) (by decide)) (fun n' i'' hu' hu1' hu2' hu3' hu4' h' tk' t' ti' F' N' => ?_) (fun z' h' tk' ex' i' ti' x' n' => ?_) rfl))) | ((fail_if_success fail_if_success with_reducible show wpAny _ _ (call (Value.ref _) _ _) _ _ _); (k_dflt (refine w_take (ks := ks) (by assumption) (by assumption) (by assumption) (by k_mem) (by k_mem) (fun _ _ => by k_upd) (by assumption) (by assumption) (by first | assumption | lia) (by first | assumption | lia) (by first | assumption | lia) (by first | assumption | lia)  (Rm.le (by assumption) (by decide)) (fun hm' h' tk' b' t' ti' hb' F' N' => ?_) (fun z' h' tk' ex' i' ti' x' n' => ?_) rfl))) | ((fail_if_success fail_if_success with_reducible show wpAny _ _ (call (Value.ref _) _ _) _ _ _); (k_dflt (refine w_left (by assumption) (by assumption) (by assumption) (by k_mem) (by k_mem) (fun _ _ => by k_upd) (by assumption) (Rm.le (by assumption) (by decide)) (fun h' tk' t' F' N' => ?_) (fun z' => absurd z' (fun h => h)) rfl); (try dsimp only at F' N'); try k_sweep)) | ((fail_if_success fail_if_success with_reducible show wpAny _ _ (leaving _ (Value.ref _)) _ _ _); (first | (k_dflt (refine leave_first (by assumption) (by assumption) (by assumption) (by assumption) (fun h'' x'' => ?_) rfl)) | (k_dflt (refine leave_next (by assumption) (by assumption) fun h'' x'' => ?_)))) | ((fail_if_success fail_if_success with_reducible show _ ∧ _); (refine ⟨rfl, by assumption, fun h' e' tk' mx' => ?_⟩)) | ((fail_if_success fail_if_success with_reducible show wpAny _ _ (exec (Stmt.Raise (some _) none _) _) _ _ _); (k_dflt (refine raise_K (by assumption) (by assumption) (Rm.le (by assumption) (by decide)) rfl ?_ rfl rfl rfl rfl))) | walk1 | (dsimp only; (first | ((fail_if_success fail_if_success with_reducible show wpAny _ _ (call (Value.ref _) _ _) _ _ _); (k_dflt (refine w_text (by assumption) (by assumption) (by assumption) (by assumption) (by first | assumption | (rw [List.length_take, List.length_drop]; lia)) (Rm.le (by assumption) (by decide)) (fun cs' hp' h' tk' t' F' N' => ?_) (fun z' h' tk' ex' x' n' => ?_) rfl))) | ((fail_if_success fail_if_success with_reducible show wpAny _ _ (call (Value.ref _) _ _) _ _ _); (k_dflt (refine w_u32 (ks := ks) (by assumption) (by assumption) (by assumption) (by k_mem) (by k_mem) (fun _ _ => by k_upd) (by assumption) (by assumption) (by first | assumption | lia) (by first | assumption | lia) (by first | assumption | lia) (Rm.le (by assumption) (by decide)) (fun n' i'' hu' hu1' hu2' hu3' hu4' h' tk' t' ti' F' N' => ?_) (fun z' h' tk' ex' i' ti' x' n' => ?_) rfl))) | ((fail_if_success fail_if_success with_reducible show wpAny _ _ (call (Value.ref _) _ _) _ _ _); (k_dflt (refine w_take (ks := ks) (by assumption) (by assumption) (by assumption) (by k_mem) (by k_mem) (fun _ _ => by k_upd) (by assumption) (by assumption) (by first | assumption | lia) (by first | assumption | lia) (by first | assumption | lia) (by first | assumption | lia)  (Rm.le (by assumption) (by decide)) (fun hm' h' tk' b' t' ti' hb' F' N' => ?_) (fun z' h' tk' ex' i' ti' x' n' => ?_) rfl))) | ((fail_if_success fail_if_success with_reducible show wpAny _ _ (call (Value.ref _) _ _) _ _ _); (k_dflt (refine w_left (by assumption) (by assumption) (by assumption) (by k_mem) (by k_mem) (fun _ _ => by k_upd) (by assumption) (Rm.le (by assumption) (by decide)) (fun h' tk' t' F' N' => ?_) (fun z' => absurd z' (fun h => h)) rfl); (try dsimp only at F' N'); try k_sweep)) | ((fail_if_success fail_if_success with_reducible show wpAny _ _ (leaving _ (Value.ref _)) _ _ _); (first | (k_dflt (refine leave_first (by assumption) (by assumption) (by assumption) (by assumption) (fun h'' x'' => ?_) rfl)) | (k_dflt (refine leave_next (by assumption) (by assumption) fun h'' x'' => ?_)))) | ((fail_if_success fail_if_success with_reducible show _ ∧ _); (refine ⟨rfl, by assumption, fun h' e' tk' mx' => ?_⟩)) | ((fail_if_success fail_if_success with_reducible show wpAny _ _ (exec (Stmt.Raise (some _) none _) _) _ _ _); (k_dflt (refine raise_K (by assumption) (by assumption) (Rm.le (by assumption) (by decide)) rfl ?_ rfl rfl rfl rfl))) | walk1)) | (leave1; (try dsimp only)) | fail "no step")
  · exact hexc (nameP_long (by assumption) (by assumption)) _ _ _ _ _ (by assumption)
  · exact hret _ _ _ _ _ ⟨_, _, by rw [nameP_eq (by assumption) (by assumption)]; rw [‹utf8P _ _ _ = some _›]; rfl, rfl⟩ (Over.of (by assumption) (by assumption))
  · exact hexc (by rw [nameP_eq (by assumption) (by assumption)]; rw [‹utf8P _ _ _ = none›]; rfl) _ _ _ _ _ (by assumption)
  · exact absurd ‹e - _ < _› (by assumption)
  · exact hexc (nameP_u (by assumption)) _ _ _ _ _ (by assumption)
theorem w_name {Q E : Value → Shared → Prop} {L f' : Addr} {m : PySem.Str → Option Value} {news : List (Addr × Obj)} {news' : Int → Tok → List (Addr × Obj)} {qual : PySem.Str} {scope : Scope} {cd : Value}
    (a : Amb w mean mg mb A base outer g) (F : Fr g L s.heap m) (N : News g L s.heap news) (hx : (x, instObj 183 dx) ∈ news) (hd : (dx, curD w bs i e t1 t2 t3 tb ti te) ∈ news)
    (U : ∀ i' ti', Upd dx (curD w bs i e t1 t2 t3 tb ti te) (curD w bs i' e t1 t2 t3 tb ti' te) news (news' i' ti')) (hlt : dx < x) (hb : KBw.bInts bs = ks) (h0 : 0 ≤ i) (he : e ≤ ks.length) (hz : ks.length ≤ 1000) (hr : Rm A 18)
    (hret : ∀ cs i', nameP ks e i = some (cs, i') → i < i' → i' ≤ e → ∀ h' tk' t ti', Fr g L h' m → News g L h' (news' i' ti') → Q (.str (strOf cs) t) { s with heap := h', toks := tk' })
    (hexc : nameP ks e i = none → ∀ h' tk' ex i' ti', Exc g outer (envOf qual scope L f' cd :: outer) ex (news' i' ti') h' → h'.Ns L m → E (.ref ex) { s with heap := h', toks := tk' })
    (hk : scope.kind = .function) : wpAny (MW w) (A.deeper (envOf qual scope L f' cd)) (call (.ref 180) [.ref x]) Q E s :=
  CurC.w (c_name hlt hb h0 he hz) a F N hx hd U hr (fun h' tk' v i' ti' r F' N' => by obtain ⟨cs, t, h1, rfl⟩ := r; exact hret _ _ h1 (nameP_range hb h1).1 (nameP_range hb h1).2 _ _ _ _ F' N') hexc hk
end
-- Lc
noncomputable def mapP (ks : List Int) (e : Int) : Nat → Int → Int → List (Int × List Int) × Option Int
  | 0, _, i => ([], some i)
  | n + 1, last, i =>
    match u32P ks e i with
    | none => ([], none)
    | some (x, j) => if x ≤ last then ([], none) else
      match nameP ks e j with
      | none => ([], none)
      | some (cs, k) => ((x, cs) :: (mapP ks e n x k).1, (mapP ks e n x k).2)
noncomputable def mapsP (ks : List Int) (e i : Int) : List (Int × List Int) × Option Int :=
  match u32P ks e i with
  | none => ([], none)
  | some (n, j) => mapP ks e n.toNat (-1) j
/-- a dict's pairs tell these texts -/
inductive KvS : List (Int × Value) → List (Int × List Int) → Prop
  | nil : KvS [] []
  | cons {k : Int} {cs : List Int} {t : Tok} {r : List (Int × Value)} {r' : List (Int × List Int)} : KvS r r' → KvS ((k, .str (strOf cs) t) :: r) ((k, cs) :: r')
theorem KvS.snoc {k : Int} {cs : List Int} {t : Tok} : ∀ {r : List (Int × Value)} {r' : List (Int × List Int)}, KvS r r' → KvS (r ++ [(k, .str (strOf cs) t)]) (r' ++ [(k, cs)])
  | _, _, .nil => .cons .nil
  | _, _, .cons h => .cons h.snoc
theorem KvS.len : ∀ {r : List (Int × Value)} {r' : List (Int × List Int)}, KvS r r' → r.length = r'.length
  | _, _, .nil => rfl
  | _, _, .cons h => by rw [List.length_cons, List.length_cons, h.len]
theorem KvS.keys : ∀ {r : List (Int × Value)} {r' : List (Int × List Int)}, KvS r r' → r.map (·.1) = r'.map (·.1)
  | _, _, .nil => rfl
  | _, _, .cons h => by rw [List.map_cons, List.map_cons, h.keys]
theorem stored_new {kvs : List (Int × Value)} {k : Int} {v : Value} (h : ∀ p ∈ kvs, p.1 < k) : stored kvs k v = kvs ++ [(k, v)] := by
  unfold stored
  rw [if_neg]
  intro q
  rw [List.any_eq_true] at q
  obtain ⟨p, hp, e⟩ := q
  have := h p hp
  have : p.1 = k := by simpa using e
  lia
theorem mapP_u {ks : List Int} {e last i : Int} {n : Nat} (h : u32P ks e i = none) : mapP ks e (n + 1) last i = ([], none) := by rw [mapP, h]
theorem mapP_low {ks : List Int} {e last i x j : Int} {n : Nat} (h : u32P ks e i = some (x, j)) (hl : x ≤ last) : mapP ks e (n + 1) last i = ([], none) := by
  rw [mapP, h]; exact if_pos hl
theorem mapP_name {ks : List Int} {e last i x j : Int} {n : Nat} (h : u32P ks e i = some (x, j)) (hn : nameP ks e j = none) : mapP ks e (n + 1) last i = ([], none) := by
  rw [mapP, h]
  show (if x ≤ last then _ else _) = _
  split
  · rfl
  · rw [hn]
theorem mapP_ok {ks : List Int} {e last i x j k : Int} {cs : List Int} {n : Nat} (h : u32P ks e i = some (x, j)) (hl : ¬ x ≤ last) (hn : nameP ks e j = some (cs, k)) :
    mapP ks e (n + 1) last i = ((x, cs) :: (mapP ks e n x k).1, (mapP ks e n x k).2) := by
  rw [mapP, h]
  show (if x ≤ last then _ else _) = _
  rw [if_neg hl, hn]
inductive JM (w : World) (x dx d : Nat) (bs : Array UInt8) (ks : List Int) (e : Int) (t1 t2 t3 tb te : Tok) (whole : List (Int × List Int) × Option Int) (n : Nat) (unn1 : Nat) (m : PySem.Str → Option Value) (news : List (Addr × Obj)) : Prop
  | mk (last i : Int) (kvs : List (Int × Value)) (done : List (Int × List Int)) (o : Obj) (tl ti : Tok) (h1 : whole = (done ++ (mapP ks e n last i).1, (mapP ks e n last i).2)) (h2 : KvS kvs done) (h3 : (∀ p ∈ kvs, p.1 ≤ last)) (h4 : 0 ≤ i) (h5 : i ≤ e) (h6 : kvs.length ≤ i) (h7 : o.IsDictOf (PySem.intKind PySem.Challenge.pw_nm0124_01 w) kvs) (h8 : AllOn m [(PySem.Str.ofString "last", .int last tl), (PySem.Str.ofString "found", .ref d), (PySem.Str.ofString "part", .ref x)]) (h9 : news = [(d, o), (x, instObj 183 dx), (dx, curD w bs i e t1 t2 t3 tb ti te)]) : JM w x dx d bs ks e t1 t2 t3 tb te whole n unn1 m news
section
variable {w : World} {mean : ExcName → Option Value} {mg mb : PySem.Str → Option Value} {A : Around} {base g : Heap} {outer : List Env} {s : Shared} {Q E : Value → Shared → Prop}
  {x dx : Nat} {bs : Array UInt8} {ks : List Int} {i e : Int} {t1 t2 t3 tb ti te : Tok}
theorem c_map (hlt : dx < x) (hb : KBw.bInts bs = ks) (h0 : 0 ≤ i) (he : e ≤ ks.length) (hz : ks.length ≤ 1000) {d : Nat} {o : Obj} (hdx : @Ne Nat d x) (hddx : @Ne Nat d dx) (hd : o.IsDictOf (PySem.intKind PySem.Challenge.pw_nm0124_01 w) [])
    (a : Amb w mean mg mb A base outer g) (ov : Over g s ((d, o) :: curOwn w x dx bs e t1 t2 t3 tb te i ti)) (hr : Rm A 22)
    (hret : ∀ j, (mapsP ks e i).2 = some j → ∀ h' tk' o' kvs ti', o'.IsDictOf (PySem.intKind PySem.Challenge.pw_nm0124_01 w) kvs → KvS kvs (mapsP ks e i).1 → Over g { s with heap := h', toks := tk' } ((d, o') :: curOwn w x dx bs e t1 t2 t3 tb te j ti') → Q .none { s with heap := h', toks := tk' })
    (hexc : (mapsP ks e i).2 = none → ∀ h' tk' ex o' kvs i' ti', o'.IsDictOf (PySem.intKind PySem.Challenge.pw_nm0124_01 w) kvs → KvS kvs (mapsP ks e i).1 → Exc g outer outer ex ((d, o') :: curOwn w x dx bs e t1 t2 t3 tb te i' ti') h' → E (.ref ex) { s with heap := h', toks := tk' }) :
    wpAny (MW w) A (call (.ref 230) [.ref x, .ref d]) Q E s := by
  obtain ⟨hd, dp, fr, gd, un⟩ := A
  obtain rfl : hd = none := a.hh
  obtain rfl : fr = some outer := a.B.stack
  have X := a.X
  have T := a.T
  have B := a.B
  refine wpAny_call ?_
  refine' enter (binds := [(PySem.Str.ofString "part", .ref x), (PySem.Str.ofString "found", .ref d)]) a ov ?k6 ?k7 ?k8 ?k9 ?kB ?_ ?c2 ?c3 ?c4 ?c5
  (case k6 => k_is)
  (case k7 => k_is)
  (case k8 => exact hr.depth)
  (case k9 => first | exact BindsTo.of_eq rfl | exact binds_K (a.X.keeps ov.st) rfl (by k_is) rfl rfl rfl)
  (case kB => exact locs rfl)
  (case c2 => exact rfl)
  (case c3 => exact rfl)
  (case c4 => exact rfl)
  (case c5 => decide)
  intro L F0 tk F N
  dsimp only [ifs, List.reverse, List.reverseAux] at F
  dsimp only [curOwn] at N
  conv in (occs := *) fnBody _ => all_goals whnf
  conv in (occs := *) fnScope _ => all_goals whnf
  try dsimp only
  k_fold
  iterate 7 walk1
  rotate_left
  · rename Fr _ _ _ _ => F2
    refine' For_invVF F2 ?k1 ?k2 ?_
    (case k1 => exact rfl)
    (case k2 => exact rfl)
    iterate 11 (first | ((fail_if_success fail_if_success with_reducible show wpAny _ _ (call (Value.ref _) _ _) _ _ _); (k_dflt (refine w_u32 (ks := ks) (by assumption) (by assumption) (by assumption) (by k_mem) (by k_mem) (fun _ _ => by k_upd) (by assumption) (by assumption) (by first | assumption | lia) (by first | assumption | lia) (by first | assumption | lia) (Rm.le (by assumption) (by decide)) (fun n' i'' hu' hu1' hu2' hu3' hu4' h' tk' t' ti' F' N' => ?_) (fun z' h' tk' ex' i' ti' x' n' => ?_) rfl))) | walk1)
    rotate_left
    iterate 1 (first | ((fail_if_success fail_if_success with_reducible show wpAny _ _ (leaving _ (Value.ref _)) _ _ _); (first | (k_dflt (refine leave_first (by assumption) (by assumption) (by assumption) (by assumption) (fun h'' x'' => ?_) rfl)) | (k_dflt (refine leave_next (by assumption) (by assumption) fun h'' x'' => ?_)))) | walk1)
    rotate_left
    · rename IsRange _ _ _ _ _ _ _ _ => hR
      rename Fr _ _ _ _ => F3
      rename News _ _ _ _ => N3
      rename u32P _ _ _ = some _ => hu
      refine iter_rangeUnr rfl hR (small_one (by decide) (by decide) (by lia) (by lia)) (rangeSize_nat _ _) F3 N3 fun I lI => ?_
      (repeat (rename Fr _ _ _ _ => zz; clear zz)); (repeat (rename News _ _ _ _ => zz; clear zz))
      k_lt lI
      refine rangeRest_ind (JM w x dx d bs ks e t1 t2 t3 tb te (mapsP ks e i)) ?h0 ?h1 _ _ _ _ ⟨-1, _, [], [], o, _, _, by rw [Int.sub_zero, mapsP, hu]; rfl, .nil, (fun _ hp => nomatch hp), ?i0, by assumption, ?l0, hd, ⟨rfl, rfl, rfl, trivial⟩, rfl⟩
      (case i0 => lia)
      (case l0 => exact Int.le_trans h0 (by lia))
      case h0 =>
        intro _ m₂ news₂ J h₂ tk₂ F₂ N₂
        obtain ⟨last, i₁, kvs, done, o₁, tl, ti₁, hw, hk, hl, hi0, hi1, hlen, hd₁, hm, rfl⟩ := J
        replace F₂ : Fr g L h₂ _ := Fr_on F₂ hm
        replace N₂ : News g L h₂ _ := N₂
        dsimp only [ifsE] at F₂
        k_steps
        exact hret _ (by rw [hw]; rfl) _ _ _ _ _ hd₁ (by rw [hw]; simpa [mapP] using hk) (Over.of F₂ N₂)
      case h1 =>
        intro k j m₂ news₂ J u h₂ tk₂ F₂ N₂
        obtain ⟨last, i₁, kvs, done, o₁, tl, ti₁, hw, hk, hl, hi0, hi1, hlen, hd₁, hm, rfl⟩ := J
        replace F₂ : Fr g L h₂ _ := Fr_on F₂ (l := [(PySem.Str.ofString "turn", .int _ u), (PySem.Str.ofString "last", .int last tl), (PySem.Str.ofString "found", .ref d), (PySem.Str.ofString "part", .ref x)]) ⟨rfl, hm⟩
        replace N₂ : News g L h₂ _ := N₂
        dsimp only [ifsE] at F₂
        have hsz : kvs.length ≤ sizeLine := by rw [sizeLine_eq]; lia
        repeat' (first | (k_unfold; (try dsimp only)) | (k_end; wrow_close) | ((fail_if_success fail_if_success with_reducible show wpAny _ _ (setItem (Value.ref _) (Value.int _ _) _) _ _ _); (k_dflt (refine kda_set (knd := PySem.intKind _ _) (by k_asm) (by k_asm) (by k_updF) (by k_asm) (intKind_is _ _ _ _) (by assumption) ?_    ); intro h' o' F' N' hd'; (try dsimp only at N'))) | ((fail_if_success fail_if_success with_reducible show wpAny _ _ (call (Value.ref _) _ _) _ _ _); (k_dflt (refine w_name (ks := ks) (by assumption) (by assumption) (by assumption) (by k_mem) (by k_mem) (fun _ _ => by k_upd) (by assumption) (by assumption) (by first | assumption | lia) (by first | assumption | lia) (by first | assumption | lia) (Rm.le (by assumption) (by decide)) (fun cs' i'' hu' hu3' hu4' h' tk' t' ti' F' N' => ?_) (fun z' h' tk' ex' i' ti' x' n' => ?_) rfl))) | ((fail_if_success fail_if_success with_reducible show wpAny _ _ (call (Value.ref _) _ _) _ _ _); (k_dflt (refine w_u32 (ks := ks) (by assumption) (by assumption) (by assumption) (by k_mem) (by k_mem) (fun _ _ => by k_upd) (by assumption) (by assumption) (by first | assumption | lia) (by first | assumption | lia) (by first | assumption | lia) (Rm.le (by assumption) (by decide)) (fun n' i'' hu' hu1' hu2' hu3' hu4' h' tk' t' ti' F' N' => ?_) (fun z' h' tk' ex' i' ti' x' n' => ?_) rfl))) | ((fail_if_success fail_if_success with_reducible show wpAny _ _ (leaving _ (Value.ref _)) _ _ _); (first | (k_dflt (refine leave_first (by assumption) (by assumption) (by assumption) (by assumption) (fun h'' x'' => ?_) rfl)) | (k_dflt (refine leave_next (by assumption) (by assumption) fun h'' x'' => ?_)))) | ((fail_if_success fail_if_success with_reducible show _ ∧ _); (refine ⟨rfl, by assumption, fun h' e' tk' mx' => ?_⟩)) | ((fail_if_success fail_if_success with_reducible show wpAny _ _ (exec (Stmt.Raise (some _) none _) _) _ _ _); (k_dflt (refine raise_K (by assumption) (by assumption) (Rm.le (by assumption) (by decide)) rfl ?_ rfl rfl rfl rfl))) | walk1 | (dsimp only; (first | ((fail_if_success fail_if_success with_reducible show wpAny _ _ (setItem (Value.ref _) (Value.int _ _) _) _ _ _); (k_dflt (refine kda_set (knd := PySem.intKind _ _) (by k_asm) (by k_asm) (by k_updF) (by k_asm) (intKind_is _ _ _ _) (by assumption) ?_    ); intro h' o' F' N' hd'; (try dsimp only at N'))) | ((fail_if_success fail_if_success with_reducible show wpAny _ _ (call (Value.ref _) _ _) _ _ _); (k_dflt (refine w_name (ks := ks) (by assumption) (by assumption) (by assumption) (by k_mem) (by k_mem) (fun _ _ => by k_upd) (by assumption) (by assumption) (by first | assumption | lia) (by first | assumption | lia) (by first | assumption | lia) (Rm.le (by assumption) (by decide)) (fun cs' i'' hu' hu3' hu4' h' tk' t' ti' F' N' => ?_) (fun z' h' tk' ex' i' ti' x' n' => ?_) rfl))) | ((fail_if_success fail_if_success with_reducible show wpAny _ _ (call (Value.ref _) _ _) _ _ _); (k_dflt (refine w_u32 (ks := ks) (by assumption) (by assumption) (by assumption) (by k_mem) (by k_mem) (fun _ _ => by k_upd) (by assumption) (by assumption) (by first | assumption | lia) (by first | assumption | lia) (by first | assumption | lia) (Rm.le (by assumption) (by decide)) (fun n' i'' hu' hu1' hu2' hu3' hu4' h' tk' t' ti' F' N' => ?_) (fun z' h' tk' ex' i' ti' x' n' => ?_) rfl))) | ((fail_if_success fail_if_success with_reducible show wpAny _ _ (leaving _ (Value.ref _)) _ _ _); (first | (k_dflt (refine leave_first (by assumption) (by assumption) (by assumption) (by assumption) (fun h'' x'' => ?_) rfl)) | (k_dflt (refine leave_next (by assumption) (by assumption) fun h'' x'' => ?_)))) | ((fail_if_success fail_if_success with_reducible show _ ∧ _); (refine ⟨rfl, by assumption, fun h' e' tk' mx' => ?_⟩)) | ((fail_if_success fail_if_success with_reducible show wpAny _ _ (exec (Stmt.Raise (some _) none _) _) _ _ _); (k_dflt (refine raise_K (by assumption) (by assumption) (Rm.le (by assumption) (by decide)) rfl ?_ rfl rfl rfl rfl))) | walk1)) | (leave1; (try dsimp only)) | fail "no step")
        · rw [mapP_low (by assumption) (by assumption), List.append_nil] at hw
          exact hexc (by rw [hw]) _ _ _ _ _ _ _ hd₁ (by rw [hw]; exact hk) (Exc.sub (by assumption) fun q hq => .tail _ hq)
        · rw [mapP_ok (by assumption) (by assumption) (by assumption)] at hw
          rename Obj.IsDictOf _ _ (stored _ _ _) => hd₂
          rw [stored_new (fun q hq => by have := hl q hq; lia)] at hd₂
          refine ⟨_, _, _, _, _, _, _, by rw [hw, List.append_cons], hk.snoc, fun q hq => ?_, by lia, by lia, ?_, hd₂, ⟨rfl, rfl, rfl, trivial⟩, rfl⟩
          · rcases List.mem_append.mp hq with hq | hq
            · have := hl q hq; lia
            · rw [List.mem_singleton.mp hq]; exact Int.le_refl _
          · rw [List.length_append, List.length_singleton]; lia
        · rw [mapP_name (by assumption) (by assumption), List.append_nil] at hw
          exact hexc (by rw [hw]) _ _ _ _ _ _ _ hd₁ (by rw [hw]; exact hk) (Exc.sub (by assumption) fun q hq => .tail _ hq)
        · rw [mapP_u (by assumption), List.append_nil] at hw
          exact hexc (by rw [hw]) _ _ _ _ _ _ _ hd₁ (by rw [hw]; exact hk) (Exc.sub (by assumption) fun q hq => .tail _ hq)
    · rename u32P _ _ _ = none => hu
      have hw : mapsP ks e i = ([], none) := by rw [mapsP, hu]
      exact hexc (by rw [hw]) _ _ _ _ _ _ _ hd (by rw [hw]; exact .nil) (by assumption)
end
-- Ld
/-- some entries are turned, one after the other -/
inductive Puts : List (Addr × Obj) → List (Addr × Obj) → List (Addr × Obj) → Prop
  | nil {n : List (Addr × Obj)} : Puts [] n n
  | cons {a : Addr} {o o' : Obj} {r n n₁ n₂ : List (Addr × Obj)} : Upd a o o' n n₁ → Puts r n₁ n₂ → Puts ((a, o') :: r) n n₂
theorem upd_each {a : Addr} {o o' : Obj} {n n₁ : List (Addr × Obj)} (U : Upd a o o' n n₁) : ∀ p ∈ n₁, p = (a, o') ∨ (p ∈ n ∧ p.1 ≠ a) := by
  obtain ⟨pre, post, rfl, rfl, h1, h2⟩ := U.split
  intro p hp
  rcases List.mem_append.mp hp with q | q
  · exact .inr ⟨List.mem_append_left _ q, h1 p q⟩
  · rcases List.mem_cons.mp q with rfl | q
    · exact .inl rfl
    · exact .inr ⟨List.mem_append_right _ (.tail _ q), h2 p q⟩
theorem Puts.each : ∀ {ups n n' : List (Addr × Obj)}, Puts ups n n' → ∀ p ∈ n', p ∈ ups ∨ (p ∈ n ∧ p.1 ∉ ups.map (·.1))
  | _, _, _, .nil => fun p hp => .inr ⟨hp, by simp⟩
  | _, _, _, .cons U P => fun p hp => by
    rcases P.each p hp with q | ⟨q, q'⟩
    · exact .inl (.tail _ q)
    · rcases upd_each U p q with rfl | ⟨r, r'⟩
      · exact .inl (.head _)
      · exact .inr ⟨r, by simp only [List.map_cons, List.mem_cons, not_or]; exact ⟨r', q'⟩⟩
theorem puts_or {g h : Heap} {L : Addr} {news news' own own' ups : List (Addr × Obj)} (N : News g L h news) (hin : ∀ p ∈ own, p ∈ news) (P : Puts ups news news') (h1 : ∀ p ∈ ups, p ∈ own') (h2 : ∀ q ∈ own, q ∈ own' ∨ q.1 ∈ ups.map (·.1)) :
    ∀ p ∈ news', p ∈ own' ∨ (p ∈ news ∧ p.1 ∉ own.map (·.1)) := fun p hp => by
  rcases P.each p hp with q | ⟨q, q'⟩
  · exact .inl (h1 p q)
  · rcases same_or N hin p q with r | ⟨_, r⟩
    · rcases h2 p r with z | z
      · exact .inl z
      · exact absurd z q'
    · exact .inr ⟨q, r⟩

theorem mapP_range {ks : List Int} {e : Int} {bs : Array UInt8} (hb : KBw.bInts bs = ks) : ∀ {n : Nat} {last i j : Int}, i ≤ e → (mapP ks e n last i).2 = some j → i ≤ j ∧ j ≤ e
  | 0, last, i, j, h, hj => by cases hj; exact ⟨Int.le_refl _, h⟩
  | n + 1, last, i, j, h, hj => by
    cases hu : u32P ks e i with
    | none => rw [mapP_u hu] at hj; cases hj
    | some r =>
      obtain ⟨x, k⟩ := r
      have r1 := u32P_range hb hu
      by_cases hl : x ≤ last
      · rw [mapP_low hu hl] at hj; cases hj
      · cases hn : nameP ks e k with
        | none => rw [mapP_name hu hn] at hj; cases hj
        | some q =>
          obtain ⟨cs, k'⟩ := q
          have r2 := nameP_range hb hn
          rw [mapP_ok hu hl hn] at hj
          have r3 := mapP_range hb (by lia) hj
          lia
theorem mapsP_range {ks : List Int} {e : Int} {bs : Array UInt8} (hb : KBw.bInts bs = ks) {i j : Int} (h : (mapsP ks e i).2 = some j) : i < j ∧ j ≤ e := by
  unfold mapsP at h
  cases hu : u32P ks e i with
  | none => rw [hu] at h; cases h
  | some r =>
    obtain ⟨n, k⟩ := r
    rw [hu] at h
    have r1 := u32P_range hb hu
    have r2 := mapP_range hb (by lia) h
    lia
section
variable {w : World} {mean : ExcName → Option Value} {mg mb : PySem.Str → Option Value} {A : Around} {base g : Heap} {outer : List Env} {s : Shared} {Q E : Value → Shared → Prop}
  {x dx : Nat} {bs : Array UInt8} {ks : List Int} {i e : Int} {t1 t2 t3 tb ti te : Tok}
theorem w_map {d : Nat} {o : Obj} {L f' : Addr} {m : PySem.Str → Option Value} {news : List (Addr × Obj)} {news' : Obj → Int → Tok → List (Addr × Obj)} {qual : PySem.Str} {scope : Scope} {cd : Value}
    (a : Amb w mean mg mb A base outer g) (F : Fr g L s.heap m) (N : News g L s.heap news) (hx : (x, instObj 183 dx) ∈ news) (hdx : (dx, curD w bs i e t1 t2 t3 tb ti te) ∈ news) (hdd : (d, o) ∈ news)
    (U : ∀ o' i' ti', Puts [(d, o'), (dx, curD w bs i' e t1 t2 t3 tb ti' te)] news (news' o' i' ti'))
    (hlt : dx < x) (hb : KBw.bInts bs = ks) (h0 : 0 ≤ i) (he : e ≤ ks.length) (hz : ks.length ≤ 1000) (n1 : @Ne Nat d x) (n2 : @Ne Nat d dx) (hd : o.IsDictOf (PySem.intKind PySem.Challenge.pw_nm0124_01 w) []) (hr : Rm A 23)
    (hret : ∀ j, (mapsP ks e i).2 = some j → i < j → j ≤ e → ∀ h' tk' o' kvs ti', o'.IsDictOf (PySem.intKind PySem.Challenge.pw_nm0124_01 w) kvs → KvS kvs (mapsP ks e i).1 → Fr g L h' m → News g L h' (news' o' j ti') → Q .none { s with heap := h', toks := tk' })
    (hexc : (mapsP ks e i).2 = none → ∀ h' tk' ex o' kvs i' ti', o'.IsDictOf (PySem.intKind PySem.Challenge.pw_nm0124_01 w) kvs → KvS kvs (mapsP ks e i).1 → Exc g outer (envOf qual scope L f' cd :: outer) ex (news' o' i' ti') h' → h'.Ns L m → E (.ref ex) { s with heap := h', toks := tk' })
    (hk : scope.kind = .function) : wpAny (MW w) (A.deeper (envOf qual scope L f' cd)) (call (.ref 230) [.ref x, .ref d]) Q E s := by
  have hin : ∀ p ∈ (d, o) :: curOwn w x dx bs e t1 t2 t3 tb te i ti, p ∈ news := fun p hp => by
    rcases List.mem_cons.mp hp with rfl | hp
    · exact hdd
    · rcases List.mem_cons.mp hp with rfl | hp
      · exact hx
      · rw [List.mem_singleton.mp hp]; exact hdx
  have hor : ∀ o' i' ti', ∀ p ∈ news' o' i' ti', p ∈ (d, o') :: curOwn w x dx bs e t1 t2 t3 tb te i' ti' ∨ (p ∈ news ∧ p.1 ∉ ((d, o) :: curOwn w x dx bs e t1 t2 t3 tb te i ti).map (·.1)) := fun o' i' ti' =>
    puts_or N hin (U o' i' ti') (fun p hp => by
      rcases List.mem_cons.mp hp with rfl | hp
      · exact .head _
      · rw [List.mem_singleton.mp hp]; exact .tail _ (.tail _ (.head _))) fun p hp => by
      rcases List.mem_cons.mp hp with rfl | hp
      · exact .inr (by simp)
      · rcases List.mem_cons.mp hp with rfl | hp
        · exact .inl (.tail _ (.head _))
        · rw [List.mem_singleton.mp hp]; exact .inr (by simp)
  refine c_map hlt hb h0 he hz n1 n2 hd (siteA a F N hin hk) (siteO N hin) hr.deeper (fun j z h' tk' o' kvs ti' d' k' ov => ?_) fun z h' tk' ex o' kvs i' ti' d' k' x' => ?_
  · obtain ⟨F', N'⟩ := site_back F N hin ov (hor o' j ti')
    exact hret j z (mapsP_range hb z).1 (mapsP_range hb z).2 h' tk' o' kvs ti' d' k' F' N'
  · obtain ⟨y, n'⟩ := exc_site a F N hin x' (hor o' i' ti')
    exact hexc z h' tk' ex o' kvs i' ti' d' k' y n'
end
-- Le
noncomputable def rowP (ks : List Int) (e : Int) : Nat → Int → Int → List (Int × List (Int × List Int)) × Option Int
  | 0, _, i => ([], some i)
  | n + 1, last, i =>
    match u32P ks e i with
    | none => ([], none)
    | some (x, j) => if x ≤ last then ([], none) else
      match (mapsP ks e j).2 with
      | none => ([(x, (mapsP ks e j).1)], none)
      | some k => ((x, (mapsP ks e j).1) :: (rowP ks e n x k).1, (rowP ks e n x k).2)
noncomputable def rowsP (ks : List Int) (e i : Int) : List (Int × List (Int × List Int)) × Option Int :=
  match u32P ks e i with
  | none => ([], none)
  | some (n, j) => rowP ks e n.toNat (-1) j
/-- a dict's pairs tell these dicts of texts, which stand among these objects -/
inductive RowS (w : World) : List (Int × Value) → List (Addr × Obj) → List (Int × List (Int × List Int)) → Prop
  | nil : RowS w [] [] []
  | cons {k : Int} {c : Addr} {oc : Obj} {kv : List (Int × Value)} {m : List (Int × List Int)} {r : List (Int × Value)} {inn : List (Addr × Obj)} {rr : List (Int × List (Int × List Int))} :
      oc.IsDictOf (PySem.intKind PySem.Challenge.pw_nm0124_01 w) kv → KvS kv m → RowS w r inn rr → RowS w ((k, .ref c) :: r) ((c, oc) :: inn) ((k, m) :: rr)
theorem RowS.snoc {w : World} {k : Int} {c : Addr} {oc : Obj} {kv : List (Int × Value)} {m : List (Int × List Int)} (h1 : oc.IsDictOf (PySem.intKind PySem.Challenge.pw_nm0124_01 w) kv) (h2 : KvS kv m) :
    ∀ {r : List (Int × Value)} {inn : List (Addr × Obj)} {rr : List (Int × List (Int × List Int))}, RowS w r inn rr → RowS w (r ++ [(k, .ref c)]) (inn ++ [(c, oc)]) (rr ++ [(k, m)])
  | _, _, _, .nil => .cons h1 h2 .nil
  | _, _, _, .cons a b h => .cons a b (RowS.snoc h1 h2 h)
theorem rowP_u {ks : List Int} {e last i : Int} {n : Nat} (h : u32P ks e i = none) : rowP ks e (n + 1) last i = ([], none) := by rw [rowP, h]
theorem rowP_low {ks : List Int} {e last i x j : Int} {n : Nat} (h : u32P ks e i = some (x, j)) (hl : x ≤ last) : rowP ks e (n + 1) last i = ([], none) := by
  rw [rowP, h]; exact if_pos hl
theorem rowP_map {ks : List Int} {e last i x j : Int} {n : Nat} (h : u32P ks e i = some (x, j)) (hl : ¬ x ≤ last) (hn : (mapsP ks e j).2 = none) : rowP ks e (n + 1) last i = ([(x, (mapsP ks e j).1)], none) := by
  rw [rowP, h]
  show (if x ≤ last then _ else _) = _
  rw [if_neg hl, hn]
theorem rowP_ok {ks : List Int} {e last i x j k : Int} {n : Nat} (h : u32P ks e i = some (x, j)) (hl : ¬ x ≤ last) (hn : (mapsP ks e j).2 = some k) :
    rowP ks e (n + 1) last i = ((x, (mapsP ks e j).1) :: (rowP ks e n x k).1, (rowP ks e n x k).2) := by
  rw [rowP, h]
  show (if x ≤ last then _ else _) = _
  rw [if_neg hl, hn]
theorem rowP_range {ks : List Int} {e : Int} {bs : Array UInt8} (hb : KBw.bInts bs = ks) : ∀ {n : Nat} {last i j : Int}, i ≤ e → (rowP ks e n last i).2 = some j → i ≤ j ∧ j ≤ e
  | 0, last, i, j, h, hj => by cases hj; exact ⟨Int.le_refl _, h⟩
  | n + 1, last, i, j, h, hj => by
    cases hu : u32P ks e i with
    | none => rw [rowP_u hu] at hj; cases hj
    | some r =>
      obtain ⟨x, k⟩ := r
      have r1 := u32P_range hb hu
      by_cases hl : x ≤ last
      · rw [rowP_low hu hl] at hj; cases hj
      · cases hn : (mapsP ks e k).2 with
        | none => rw [rowP_map hu hl hn] at hj; cases hj
        | some k' =>
          have r2 := mapsP_range hb hn
          rw [rowP_ok hu hl hn] at hj
          have r3 := rowP_range hb (by lia) hj
          lia
theorem rowsP_range {ks : List Int} {e : Int} {bs : Array UInt8} (hb : KBw.bInts bs = ks) {i j : Int} (h : (rowsP ks e i).2 = some j) : i < j ∧ j ≤ e := by
  unfold rowsP at h
  cases hu : u32P ks e i with
  | none => rw [hu] at h; cases h
  | some r =>
    obtain ⟨n, k⟩ := r
    rw [hu] at h
    have r1 := u32P_range hb hu
    have r2 := rowP_range hb (by lia) h
    lia
noncomputable def Off (l : List (Addr × Obj)) (a : Nat) : Prop := ∀ p ∈ l, p.1 ≠ a
theorem off_snoc {l : List (Addr × Obj)} {a : Nat} {c : Addr} {o : Obj} (h : Off l a) (hc : c ≠ a) : Off (l ++ [(c, o)]) a := fun p hp => by
  rcases List.mem_append.mp hp with q | q
  · exact h p q
  · rw [List.mem_singleton.mp q]; exact hc
theorem sub_rot {α : Type} {pre inn : List α} {c : α} : ∀ q ∈ pre ++ (inn ++ [c]), q ∈ c :: (pre ++ inn) := fun q hq => by
  rcases List.mem_append.mp hq with h | h
  · exact .tail _ (List.mem_append_left _ h)
  · rcases List.mem_append.mp h with h | h
    · exact .tail _ (List.mem_append_right _ h)
    · rw [List.mem_singleton.mp h]; exact .head _
inductive JR (w : World) (x dx d I : Nat) (bs : Array UInt8) (ks : List Int) (e : Int) (t1 t2 t3 tb te : Tok) (whole : List (Int × List (Int × List Int)) × Option Int) (n : Nat) (unn1 : Nat) (m : PySem.Str → Option Value) (news : List (Addr × Obj)) : Prop
  | mk (last i : Int) (kvs : List (Int × Value)) (done : List (Int × List (Int × List Int))) (o : Obj) (inn : List (Addr × Obj)) (tl ti : Tok) (h1 : whole = (done ++ (rowP ks e n last i).1, (rowP ks e n last i).2)) (h2 : RowS w kvs inn done) (h3 : (∀ p ∈ kvs, p.1 ≤ last)) (h4 : 0 ≤ i) (h5 : i ≤ e) (h6 : kvs.length ≤ i) (h7 : o.IsDictOf (PySem.intKind PySem.Challenge.pw_nm0124_01 w) kvs) (h8 : Off inn d) (h9 : Off inn x) (h10 : Off inn dx) (h11 : Off inn I) (h12 : AllOn m [(PySem.Str.ofString "last", .int last tl), (PySem.Str.ofString "found", .ref d), (PySem.Str.ofString "part", .ref x)]) (h13 : news = (d, o) :: (x, instObj 183 dx) :: (dx, curD w bs i e t1 t2 t3 tb ti te) :: inn) : JR w x dx d I bs ks e t1 t2 t3 tb te whole n unn1 m news
theorem valueAt_stored {kvs : List (Int × Value)} {k : Int} {v : Value} (h : ∀ p ∈ kvs, p.1 < k) : valueAt (kvs ++ [(k, v)]) k = some v := by
  induction kvs with
  | nil => simp [valueAt]
  | cons p r ih =>
    have h1 := h p (.head _)
    have h2 := ih fun q hq => h q (.tail _ hq)
    unfold valueAt at *
    rw [List.cons_append, List.find?_cons]
    have : ¬ p.1 = k := by lia
    simp [this]
    simpa using h2
section
variable {w : World} {mean : ExcName → Option Value} {mg mb : PySem.Str → Option Value} {A : Around} {base g : Heap} {outer : List Env} {s : Shared} {Q E : Value → Shared → Prop}
  {x dx : Nat} {bs : Array UInt8} {ks : List Int} {i e : Int} {t1 t2 t3 tb ti te : Tok}
end
local macro_rules | `(tactic| k_all) => `(tactic| assumption)
section
variable {w : World} {mean : ExcName → Option Value} {mg mb : PySem.Str → Option Value} {A : Around} {base g : Heap} {outer : List Env} {s : Shared} {Q E : Value → Shared → Prop}
  {x dx : Nat} {bs : Array UInt8} {ks : List Int} {i e : Int} {t1 t2 t3 tb ti te : Tok}
theorem c_rows (hlt : dx < x) (hb : KBw.bInts bs = ks) (h0 : 0 ≤ i) (he : e ≤ ks.length) (hz : ks.length ≤ 1000) {d : Nat} {o : Obj} (hdx : @Ne Nat d x) (hddx : @Ne Nat d dx) (hd : o.IsDictOf (PySem.intKind PySem.Challenge.pw_nm0124_01 w) [])
    (a : Amb w mean mg mb A base outer g) (ov : Over g s ((d, o) :: curOwn w x dx bs e t1 t2 t3 tb te i ti)) (hr : Rm A 26)
    (hret : ∀ j, (rowsP ks e i).2 = some j → ∀ h' tk' o' kvs inn ti', o'.IsDictOf (PySem.intKind PySem.Challenge.pw_nm0124_01 w) kvs → RowS w kvs inn (rowsP ks e i).1 → Off inn d → Off inn x → Off inn dx → Over g { s with heap := h', toks := tk' } ((d, o') :: (x, instObj 183 dx) :: (dx, curD w bs j e t1 t2 t3 tb ti' te) :: inn) → Q .none { s with heap := h', toks := tk' })
    (hexc : (rowsP ks e i).2 = none → ∀ h' tk' ex o' kvs inn i' ti', o'.IsDictOf (PySem.intKind PySem.Challenge.pw_nm0124_01 w) kvs → RowS w kvs inn (rowsP ks e i).1 → Off inn d → Off inn x → Off inn dx → Exc g outer outer ex ((d, o') :: (x, instObj 183 dx) :: (dx, curD w bs i' e t1 t2 t3 tb ti' te) :: inn) h' → E (.ref ex) { s with heap := h', toks := tk' }) :
    wpAny (MW w) A (call (.ref 237) [.ref x, .ref d]) Q E s := by
  obtain ⟨hd, dp, fr, gd, un⟩ := A
  obtain rfl : hd = none := a.hh
  obtain rfl : fr = some outer := a.B.stack
  have X := a.X
  have T := a.T
  have B := a.B
  refine wpAny_call ?_
  refine' enter (binds := [(PySem.Str.ofString "part", .ref x), (PySem.Str.ofString "found", .ref d)]) a ov ?k6 ?k7 ?k8 ?k9 ?kB ?_ ?c2 ?c3 ?c4 ?c5
  (case k6 => k_is)
  (case k7 => k_is)
  (case k8 => exact hr.depth)
  (case k9 => first | exact BindsTo.of_eq rfl | exact binds_K (a.X.keeps ov.st) rfl (by k_is) rfl rfl rfl)
  (case kB => exact locs rfl)
  (case c2 => exact rfl)
  (case c3 => exact rfl)
  (case c4 => exact rfl)
  (case c5 => decide)
  intro L F0 tk F N
  dsimp only [ifs, List.reverse, List.reverseAux] at F
  dsimp only [curOwn] at N
  conv in (occs := *) fnBody _ => all_goals whnf
  conv in (occs := *) fnScope _ => all_goals whnf
  try dsimp only
  k_fold
  iterate 7 walk1
  rotate_left
  · rename Fr _ _ _ _ => F2
    refine' For_invVF F2 ?k1 ?k2 ?_
    (case k1 => exact rfl)
    (case k2 => exact rfl)
    iterate 11 (first | ((fail_if_success fail_if_success with_reducible show wpAny _ _ (call (Value.ref _) _ _) _ _ _); (k_dflt (refine w_u32 (ks := ks) (by assumption) (by assumption) (by assumption) (by k_mem) (by k_mem) (fun _ _ => by k_upd) (by assumption) (by assumption) (by first | assumption | lia) (by first | assumption | lia) (by first | assumption | lia) (Rm.le (by assumption) (by decide)) (fun n' i'' hu' hu1' hu2' hu3' hu4' h' tk' t' ti' F' N' => ?_) (fun z' h' tk' ex' i' ti' x' n' => ?_) rfl))) | walk1)
    rotate_left
    iterate 1 (first | ((fail_if_success fail_if_success with_reducible show wpAny _ _ (leaving _ (Value.ref _)) _ _ _); (first | (k_dflt (refine leave_first (by assumption) (by assumption) (by assumption) (by assumption) (fun h'' x'' => ?_) rfl)) | (k_dflt (refine leave_next (by assumption) (by assumption) fun h'' x'' => ?_)))) | walk1)
    rotate_left
    · rename IsRange _ _ _ _ _ _ _ _ => hR
      rename Fr _ _ _ _ => F3
      rename News _ _ _ _ => N3
      rename u32P _ _ _ = some _ => hu
      refine iter_rangeUnr rfl hR (small_one (by decide) (by decide) (by lia) (by lia)) (rangeSize_nat _ _) F3 N3 fun I lI => ?_
      (repeat (rename Fr _ _ _ _ => zz; clear zz)); (repeat (rename News _ _ _ _ => zz; clear zz))
      k_lt lI
      refine rangeRest_ind (JR w x dx d I bs ks e t1 t2 t3 tb te (rowsP ks e i)) ?h0 ?h1 _ _ _ _ ⟨-1, _, [], [], o, [], _, _, by rw [Int.sub_zero, rowsP, hu]; rfl, .nil, (fun _ hp => nomatch hp), ?i0, by assumption, ?l0, hd, (fun _ hp => nomatch hp), (fun _ hp => nomatch hp), (fun _ hp => nomatch hp), (fun _ hp => nomatch hp), ⟨rfl, rfl, rfl, trivial⟩, rfl⟩
      (case i0 => lia)
      (case l0 => exact Int.le_trans h0 (by lia))
      case h0 =>
        intro _ m₂ news₂ J h₂ tk₂ F₂ N₂
        obtain ⟨last, i₁, kvs, done, o₁, inn, tl, ti₁, hw, hk, hl, hi0, hi1, hlen, hd₁, of1, of2, of3, of4, hm, rfl⟩ := J
        replace F₂ : Fr g L h₂ _ := Fr_on F₂ hm
        replace N₂ : News g L h₂ _ := N₂
        dsimp only [ifsE] at F₂
        k_steps
        exact hret _ (by rw [hw]; rfl) _ _ _ _ _ _ hd₁ (by rw [hw]; simpa [rowP] using hk) of1 of2 of3 (Over.of F₂ N₂)
      case h1 =>
        intro k j m₂ news₂ J u h₂ tk₂ F₂ N₂
        obtain ⟨last, i₁, kvs, done, o₁, inn, tl, ti₁, hw, hk, hl, hi0, hi1, hlen, hd₁, of1, of2, of3, of4, hm, rfl⟩ := J
        replace F₂ : Fr g L h₂ _ := Fr_on F₂ (l := [(PySem.Str.ofString "turn", .int _ u), (PySem.Str.ofString "last", .int last tl), (PySem.Str.ofString "found", .ref d), (PySem.Str.ofString "part", .ref x)]) ⟨rfl, hm⟩
        replace N₂ : News g L h₂ _ := N₂
        dsimp only [ifsE] at F₂
        have hsz : kvs.length ≤ sizeLine := by rw [sizeLine_eq]; lia
        repeat' (first | (k_unfold; (try dsimp only)) | (k_end; wrow_close) | ((fail_if_success fail_if_success with_reducible show wpAny _ _ (setItem (Value.ref _) (Value.int _ _) _) _ _ _); (k_dflt (refine kda_set (knd := PySem.intKind _ _) (by k_asm) (by k_asm) (by k_updF) (by k_asm) (intKind_is _ _ _ _) (by assumption) ?_    ); intro h' o' F' N' hd'; (try dsimp only at N'))) | ((fail_if_success fail_if_success with_reducible show wpAny _ _ (call (Value.ref _) _ _) _ _ _); (k_dflt (refine w_u32 (ks := ks) (by assumption) (by assumption) (by assumption) (by k_mem) (by k_mem) (fun _ _ => by k_upd) (by assumption) (by assumption) (by first | assumption | lia) (by first | assumption | lia) (by first | assumption | lia) (Rm.le (by assumption) (by decide)) (fun n' i'' hu' hu1' hu2' hu3' hu4' h' tk' t' ti' F' N' => ?_) (fun z' h' tk' ex' i' ti' x' n' => ?_) rfl))) | ((fail_if_success fail_if_success with_reducible show wpAny _ _ (leaving _ (Value.ref _)) _ _ _); (first | (k_dflt (refine leave_first (by assumption) (by assumption) (by assumption) (by assumption) (fun h'' x'' => ?_) rfl)) | (k_dflt (refine leave_next (by assumption) (by assumption) fun h'' x'' => ?_)))) | ((fail_if_success fail_if_success with_reducible show _ ∧ _); (refine ⟨rfl, by assumption, fun h' e' tk' mx' => ?_⟩)) | ((fail_if_success fail_if_success with_reducible show wpAny _ _ (exec (Stmt.Raise (some _) none _) _) _ _ _); (k_dflt (refine raise_K (by assumption) (by assumption) (Rm.le (by assumption) (by decide)) rfl ?_ rfl rfl rfl rfl))) | walk1 | (dsimp only; (first | ((fail_if_success fail_if_success with_reducible show wpAny _ _ (setItem (Value.ref _) (Value.int _ _) _) _ _ _); (k_dflt (refine kda_set (knd := PySem.intKind _ _) (by k_asm) (by k_asm) (by k_updF) (by k_asm) (intKind_is _ _ _ _) (by assumption) ?_    ); intro h' o' F' N' hd'; (try dsimp only at N'))) | ((fail_if_success fail_if_success with_reducible show wpAny _ _ (call (Value.ref _) _ _) _ _ _); (k_dflt (refine w_u32 (ks := ks) (by assumption) (by assumption) (by assumption) (by k_mem) (by k_mem) (fun _ _ => by k_upd) (by assumption) (by assumption) (by first | assumption | lia) (by first | assumption | lia) (by first | assumption | lia) (Rm.le (by assumption) (by decide)) (fun n' i'' hu' hu1' hu2' hu3' hu4' h' tk' t' ti' F' N' => ?_) (fun z' h' tk' ex' i' ti' x' n' => ?_) rfl))) | ((fail_if_success fail_if_success with_reducible show wpAny _ _ (leaving _ (Value.ref _)) _ _ _); (first | (k_dflt (refine leave_first (by assumption) (by assumption) (by assumption) (by assumption) (fun h'' x'' => ?_) rfl)) | (k_dflt (refine leave_next (by assumption) (by assumption) fun h'' x'' => ?_)))) | ((fail_if_success fail_if_success with_reducible show _ ∧ _); (refine ⟨rfl, by assumption, fun h' e' tk' mx' => ?_⟩)) | ((fail_if_success fail_if_success with_reducible show wpAny _ _ (exec (Stmt.Raise (some _) none _) _) _ _ _); (k_dflt (refine raise_K (by assumption) (by assumption) (Rm.le (by assumption) (by decide)) rfl ?_ rfl rfl rfl rfl))) | walk1)) | (leave1; (try dsimp only)) | fail "no step")
        · rw [rowP_low (by assumption) (by assumption), List.append_nil] at hw
          exact hexc (by rw [hw]) _ _ _ _ _ _ _ _ hd₁ (by rw [hw]; exact hk) of1 of2 of3 (Exc.sub (by assumption) fun q hq => .tail _ hq)
        · rename Obj.IsDictOf _ _ (stored _ _ _) => hd₂
          rw [stored_new (fun q hq => by have := hl q hq; lia)] at hd₂
          refine kda_item (knd := PySem.intKind _ _) (by assumption) (by k_mem) hd₂ (intKind_is _ _ _ _) (valueAt_stored (fun q hq => by have := hl q hq; lia)) ?_
          repeat' (first | (k_unfold; (try dsimp only)) | (k_end; wrow_close) | ((fail_if_success fail_if_success with_reducible show wpAny _ _ (call (Value.ref _) _ _) _ _ _); (k_dflt (refine w_map (ks := ks) (by assumption) (by assumption) (by assumption) (by k_mem) (by k_mem) (by k_mem) (fun _ _ _ => Puts.cons (by k_upd) (Puts.cons (by k_upd) Puts.nil)) (by assumption) (by assumption) (by first | assumption | lia) (by first | assumption | lia) (by first | assumption | lia) (by first | assumption | lia) (by first | assumption | lia) (by assumption) (Rm.le (by assumption) (by decide)) (fun j' hj' hj1 hj2 h' tk' o' kvs' ti' hd' hk' F' N' => ?_) (fun z' h' tk' ex' o' kvs' i' ti' hd' hk' x' n' => ?_) rfl))) | ((fail_if_success fail_if_success with_reducible show wpAny _ _ (leaving _ (Value.ref _)) _ _ _); (first | (k_dflt (refine leave_first (by assumption) (by assumption) (by assumption) (by assumption) (fun h'' x'' => ?_) rfl)) | (k_dflt (refine leave_next (by assumption) (by assumption) fun h'' x'' => ?_)))) | walk1 | (dsimp only; (first | ((fail_if_success fail_if_success with_reducible show wpAny _ _ (call (Value.ref _) _ _) _ _ _); (k_dflt (refine w_map (ks := ks) (by assumption) (by assumption) (by assumption) (by k_mem) (by k_mem) (by k_mem) (fun _ _ _ => Puts.cons (by k_upd) (Puts.cons (by k_upd) Puts.nil)) (by assumption) (by assumption) (by first | assumption | lia) (by first | assumption | lia) (by first | assumption | lia) (by first | assumption | lia) (by first | assumption | lia) (by assumption) (Rm.le (by assumption) (by decide)) (fun j' hj' hj1 hj2 h' tk' o' kvs' ti' hd' hk' F' N' => ?_) (fun z' h' tk' ex' o' kvs' i' ti' hd' hk' x' n' => ?_) rfl))) | ((fail_if_success fail_if_success with_reducible show wpAny _ _ (leaving _ (Value.ref _)) _ _ _); (first | (k_dflt (refine leave_first (by assumption) (by assumption) (by assumption) (by assumption) (fun h'' x'' => ?_) rfl)) | (k_dflt (refine leave_next (by assumption) (by assumption) fun h'' x'' => ?_)))) | walk1)) | (leave1; (try dsimp only)) | fail "no step")
          · rename Obj.IsDictOf _ _ _ => hdn
            rename KvS _ (mapsP _ _ _).1 => hkv
            rename _ ∧ _ ∧ _ ∧ _ ∧ AllLt _ _ => l1
            rename Fr _ _ _ _ => F4
            rename News _ _ _ _ => N4
            rw [rowP_ok (by assumption) (by assumption) (by assumption)] at hw
            refine UnrEnd.intro F4 N4 ((d, _) :: (x, instObj 183 dx) :: (dx, _) :: (inn ++ [(_, _)])) (sub_rot (pre := [(I, _), (d, _), (x, _), (dx, _)])) (fun q hq => ?_)
              ⟨_, _, _, _, _, _, _, _, by rw [hw, List.append_cons], RowS.snoc hdn hkv hk, fun q hq => ?_, by lia, by lia, ?_, hd₂, off_snoc of1 ?_, off_snoc of2 ?_, off_snoc of3 ?_, off_snoc of4 ?_, ⟨rfl, rfl, rfl, trivial⟩, rfl⟩
            · rcases List.mem_cons.mp hq with rfl | hq
              · exact Nat.ne_of_lt lI.1
              · rcases List.mem_cons.mp hq with rfl | hq
                · exact Nat.ne_of_lt lI.2.1
                · rcases List.mem_cons.mp hq with rfl | hq
                  · exact Nat.ne_of_lt lI.2.2
                  · exact off_snoc of4 (Nat.ne_of_gt l1.1) q hq
            · rcases List.mem_append.mp hq with hq | hq
              · have := hl q hq; lia
              · rw [List.mem_singleton.mp hq]; exact Int.le_refl _
            · rw [List.length_append, List.length_singleton]; lia
            · exact Nat.ne_of_gt l1.2.1
            · exact Nat.ne_of_gt l1.2.2.1
            · exact Nat.ne_of_gt l1.2.2.2.1
            · exact Nat.ne_of_gt l1.1
          · rename Obj.IsDictOf _ _ _ => hdn
            rename KvS _ (mapsP _ _ _).1 => hkv
            rename _ ∧ _ ∧ _ ∧ _ ∧ AllLt _ _ => l1
            rw [rowP_map (by assumption) (by assumption) (by assumption)] at hw
            exact hexc (by rw [hw]) _ _ _ _ _ (inn ++ [(_, _)]) _ _ hd₂ (by rw [hw]; exact RowS.snoc hdn hkv hk) (off_snoc of1 (Nat.ne_of_gt l1.2.1)) (off_snoc of2 (Nat.ne_of_gt l1.2.2.1)) (off_snoc of3 (Nat.ne_of_gt l1.2.2.2.1))
              (Exc.sub (by assumption) fun q hq => sub_rot (pre := [(I, _), (d, _), (x, _), (dx, _)]) q (.tail _ hq))
        · rw [rowP_u (by assumption), List.append_nil] at hw
          exact hexc (by rw [hw]) _ _ _ _ _ _ _ _ hd₁ (by rw [hw]; exact hk) of1 of2 of3 (Exc.sub (by assumption) fun q hq => .tail _ hq)
    · rename u32P _ _ _ = none => hu
      have hw : rowsP ks e i = ([], none) := by rw [rowsP, hu]
      exact hexc (by rw [hw]) _ _ _ _ _ [] _ _ hd (by rw [hw]; exact .nil) (fun _ hp => nomatch hp) (fun _ hp => nomatch hp) (fun _ hp => nomatch hp) (by assumption)
end
-- Lf
structure St where
  mod : Option (List Int)
  fs : List (Int × List Int)
  rs : List (Int × List (Int × List Int))
/-- what a part does to what is told, and whether it is without fault -/
noncomputable def readP (ks : List Int) (e i sort : Int) (st : St) : St × Bool :=
  if sort = 0 then (match nameP ks e i with | none => (st, false) | some (cs, j) => ({ st with mod := some cs }, decide (e ≤ j)))
  else if sort = 1 then ({ st with fs := (mapsP ks e i).1 }, match (mapsP ks e i).2 with | none => false | some j => decide (e ≤ j))
  else if sort = 2 then ({ st with rs := (rowsP ks e i).1 }, match (rowsP ks e i).2 with | none => false | some j => decide (e ≤ j))
  else (st, true)
noncomputable def ModV (v : Value) : Option (List Int) → Prop
  | none => v = .none
  | some cs => ∃ t, v = .str (strOf cs) t
noncomputable abbrev namD (w : World) (mv : Value) (df dl : Addr) (b : Bool) (t1 t2 t3 t4 : Tok) : Obj :=
  dictOf [⟨PyData.keyHash w.params (PySem.Str.ofString "module"), .str (PySem.Str.ofString "module") t1, mv⟩,
    ⟨PyData.keyHash w.params (PySem.Str.ofString "funcs"), .str (PySem.Str.ofString "funcs") t2, .ref df⟩,
    ⟨PyData.keyHash w.params (PySem.Str.ofString "locals"), .str (PySem.Str.ofString "locals") t3, .ref dl⟩,
    ⟨PyData.keyHash w.params (PySem.Str.ofString "is_whole"), .str (PySem.Str.ofString "is_whole") t4, .bool b⟩] 4
section
variable {w : World} {mean : ExcName → Option Value} {mg mb : PySem.Str → Option Value} {A : Around} {base g : Heap} {outer : List Env} {s : Shared} {Q E : Value → Shared → Prop}
  {x dx : Nat} {bs : Array UInt8} {ks : List Int} {i e : Int} {t1 t2 t3 tb ti te : Tok}
theorem w_rows {d : Nat} {o : Obj} {L f' : Addr} {m : PySem.Str → Option Value} {news : List (Addr × Obj)} {news' : Obj → Int → Tok → List (Addr × Obj)} {qual : PySem.Str} {scope : Scope} {cd : Value}
    (a : Amb w mean mg mb A base outer g) (F : Fr g L s.heap m) (N : News g L s.heap news) (hx : (x, instObj 183 dx) ∈ news) (hdx : (dx, curD w bs i e t1 t2 t3 tb ti te) ∈ news) (hdd : (d, o) ∈ news)
    (U : ∀ o' i' ti', Puts [(d, o'), (dx, curD w bs i' e t1 t2 t3 tb ti' te)] news (news' o' i' ti'))
    (hlt : dx < x) (hb : KBw.bInts bs = ks) (h0 : 0 ≤ i) (he : e ≤ ks.length) (hz : ks.length ≤ 1000) (n1 : @Ne Nat d x) (n2 : @Ne Nat d dx) (hd : o.IsDictOf (PySem.intKind PySem.Challenge.pw_nm0124_01 w) []) (hr : Rm A 27)
    (hret : ∀ j, (rowsP ks e i).2 = some j → i < j → j ≤ e → ∀ h' tk' o' kvs inn ti', o'.IsDictOf (PySem.intKind PySem.Challenge.pw_nm0124_01 w) kvs → RowS w kvs inn (rowsP ks e i).1 → (∀ q ∈ news, Off inn q.1) → Fr g L h' m → News g L h' (news' o' j ti' ++ inn) → Q .none { s with heap := h', toks := tk' })
    (hexc : (rowsP ks e i).2 = none → ∀ h' tk' ex o' kvs inn i' ti', o'.IsDictOf (PySem.intKind PySem.Challenge.pw_nm0124_01 w) kvs → RowS w kvs inn (rowsP ks e i).1 → (∀ q ∈ news, Off inn q.1) → Exc g outer (envOf qual scope L f' cd :: outer) ex (news' o' i' ti' ++ inn) h' → h'.Ns L m → E (.ref ex) { s with heap := h', toks := tk' })
    (hk : scope.kind = .function) : wpAny (MW w) (A.deeper (envOf qual scope L f' cd)) (call (.ref 237) [.ref x, .ref d]) Q E s := by
  have hin : ∀ p ∈ (d, o) :: curOwn w x dx bs e t1 t2 t3 tb te i ti, p ∈ news := fun p hp => by
    rcases List.mem_cons.mp hp with rfl | hp
    · exact hdd
    · rcases List.mem_cons.mp hp with rfl | hp
      · exact hx
      · rw [List.mem_singleton.mp hp]; exact hdx
  have hor : ∀ o' i' ti' (inn : List (Addr × Obj)), ∀ p ∈ news' o' i' ti' ++ inn, p ∈ ((d, o') :: (x, instObj 183 dx) :: (dx, curD w bs i' e t1 t2 t3 tb ti' te) :: inn) ∨ (p ∈ news ∧ p.1 ∉ ((d, o) :: curOwn w x dx bs e t1 t2 t3 tb te i ti).map (·.1)) := fun o' i' ti' inn p hp => by
    rcases List.mem_append.mp hp with hp | hp
    · refine puts_or N hin (U o' i' ti') (fun p hp => by
        rcases List.mem_cons.mp hp with rfl | hp
        · exact .head _
        · rw [List.mem_singleton.mp hp]; exact .tail _ (.tail _ (.head _))) (fun p hp => by
        rcases List.mem_cons.mp hp with rfl | hp
        · exact .inr (by simp)
        · rcases List.mem_cons.mp hp with rfl | hp
          · exact .inl (.tail _ (.head _))
          · rw [List.mem_singleton.mp hp]; exact .inr (by simp)) p hp
    · exact .inl (.tail _ (.tail _ (.tail _ hp)))
  have hof : ∀ inn : List (Addr × Obj), (∀ p ∈ inn, (gnd s.heap ((d, o) :: curOwn w x dx bs e t1 t2 t3 tb te i ti)).get? p.1 = none) → Off inn d → Off inn x → Off inn dx → ∀ q ∈ news, Off inn q.1 := fun inn hi f1 f2 f3 q hq p hp e' => by
    rcases same_or N hin q hq with r | ⟨r, r'⟩
    · rcases List.mem_cons.mp r with rfl | r
      · exact f1 p hp e'
      · rcases List.mem_cons.mp r with rfl | r
        · exact f2 p hp e'
        · rw [List.mem_singleton.mp r] at e'; exact f3 p hp e'
    · have h1 := hi p hp
      rw [e', hideAll_get _ (N q r).1 r'] at h1
      cases h1
  refine c_rows hlt hb h0 he hz n1 n2 hd (siteA a F N hin hk) (siteO N hin) hr.deeper (fun j z h' tk' o' kvs inn ti' d' k' f1 f2 f3 ov => ?_) fun z h' tk' ex o' kvs inn i' ti' d' k' f1 f2 f3 x' => ?_
  · obtain ⟨F', N'⟩ := site_back F N hin ov (hor o' j ti' inn)
    exact hret j z (rowsP_range hb z).1 (rowsP_range hb z).2 h' tk' o' kvs inn ti' d' k' (hof inn (fun p hp => (ov.O p (.tail _ (.tail _ (.tail _ hp)))).2) f1 f2 f3) F' N'
  · obtain ⟨y, n'⟩ := exc_site a F N hin x' (hor o' i' ti' inn)
    exact hexc z h' tk' ex o' kvs inn i' ti' d' k' (hof inn (fun p hp => by obtain ⟨Bx, _, h2, _, _⟩ := x'; exact (h2 p (.tail _ (.tail _ (.tail _ hp)))).2) f1 f2 f3) y n'
theorem c_want (hlt : dx < x) : CurC w 67 [.ref x] 12 x dx bs e t1 t2 t3 tb te i ti (fun v i' ti' => i' = i ∧ ti' = ti ∧ e ≤ i ∧ v = .none) (¬ e ≤ i) := by
  intro mean mg mb A base g outer s Q E a o hr hret hexc
  obtain ⟨hd, dp, fr, gd, un⟩ := A
  obtain rfl : hd = none := a.hh
  obtain rfl : fr = some outer := a.B.stack
  have X := a.X
  have T := a.T
  have B := a.B
  refine wpAny_call ?_
  refine' enter (binds := [(PySem.Str.ofString "part", .ref x)]) a o ?k6 ?k7 ?k8 ?k9 ?kB ?_ ?c2 ?c3 ?c4 ?c5
  (case k6 => k_is)
  (case k7 => k_is)
  (case k8 => exact hr.depth)
  (case k9 => first | exact BindsTo.of_eq rfl | exact binds_K (a.X.keeps o.st) rfl (by k_is) rfl rfl rfl)
  (case kB => exact locs rfl)
  (case c2 => exact rfl)
  (case c3 => exact rfl)
  (case c4 => exact rfl)
  (case c5 => decide)
  intro L F0 tk F N
  dsimp only [ifs, List.reverse, List.reverseAux] at F
  dsimp only [curOwn] at N
  conv in (occs := *) fnBody _ => all_goals whnf
  conv in (occs := *) fnScope _ => all_goals whnf
  try dsimp only
  k_fold
  repeat' (first | (k_unfold; (try dsimp only)) | (k_end; wrow_close) | ((fail_if_success fail_if_success with_reducible show wpAny _ _ (call (Value.ref _) _ _) _ _ _); (k_dflt (refine w_done (by assumption) (by assumption) (by assumption) (by k_mem) (by k_mem) (fun _ _ => by k_upd) (by assumption) (Rm.le (by assumption) (by decide)) (fun h' tk' F' N' => ?_) (fun z' => absurd z' (fun h => h)) rfl); (try dsimp only at F' N'); try k_sweep)) | ((fail_if_success fail_if_success with_reducible show wpAny _ _ (leaving _ (Value.ref _)) _ _ _); (first | (k_dflt (refine leave_first (by assumption) (by assumption) (by assumption) (by assumption) (fun h'' x'' => ?_) rfl)) | (k_dflt (refine leave_next (by assumption) (by assumption) fun h'' x'' => ?_)))) | ((fail_if_success fail_if_success with_reducible show _ ∧ _); (refine ⟨rfl, by assumption, fun h' e' tk' mx' => ?_⟩)) | ((fail_if_success fail_if_success with_reducible show wpAny _ _ (exec (Stmt.Raise (some _) none _) _) _ _ _); (k_dflt (refine raise_K (by assumption) (by assumption) (Rm.le (by assumption) (by decide)) rfl ?_ rfl rfl rfl rfl))) | walk1 | (dsimp only; (first | ((fail_if_success fail_if_success with_reducible show wpAny _ _ (call (Value.ref _) _ _) _ _ _); (k_dflt (refine w_done (by assumption) (by assumption) (by assumption) (by k_mem) (by k_mem) (fun _ _ => by k_upd) (by assumption) (Rm.le (by assumption) (by decide)) (fun h' tk' F' N' => ?_) (fun z' => absurd z' (fun h => h)) rfl); (try dsimp only at F' N'); try k_sweep)) | ((fail_if_success fail_if_success with_reducible show wpAny _ _ (leaving _ (Value.ref _)) _ _ _); (first | (k_dflt (refine leave_first (by assumption) (by assumption) (by assumption) (by assumption) (fun h'' x'' => ?_) rfl)) | (k_dflt (refine leave_next (by assumption) (by assumption) fun h'' x'' => ?_)))) | ((fail_if_success fail_if_success with_reducible show _ ∧ _); (refine ⟨rfl, by assumption, fun h' e' tk' mx' => ?_⟩)) | ((fail_if_success fail_if_success with_reducible show wpAny _ _ (exec (Stmt.Raise (some _) none _) _) _ _ _); (k_dflt (refine raise_K (by assumption) (by assumption) (Rm.le (by assumption) (by decide)) rfl ?_ rfl rfl rfl rfl))) | walk1)) | (leave1; (try dsimp only)) | fail "no step")
  · exact hret _ _ _ _ _ ⟨rfl, rfl, by assumption, rfl⟩ (Over.of (by assumption) (by assumption))
  · exact hexc (by assumption) _ _ _ _ _ (by assumption)
theorem w_want {Q E : Value → Shared → Prop} {L f' : Addr} {m : PySem.Str → Option Value} {news : List (Addr × Obj)} {news' : Int → Tok → List (Addr × Obj)} {qual : PySem.Str} {scope : Scope} {cd : Value}
    (a : Amb w mean mg mb A base outer g) (F : Fr g L s.heap m) (N : News g L s.heap news) (hx : (x, instObj 183 dx) ∈ news) (hd : (dx, curD w bs i e t1 t2 t3 tb ti te) ∈ news)
    (U : ∀ i' ti', Upd dx (curD w bs i e t1 t2 t3 tb ti te) (curD w bs i' e t1 t2 t3 tb ti' te) news (news' i' ti')) (hlt : dx < x) (hr : Rm A 13)
    (hret : e ≤ i → ∀ h' tk', Fr g L h' m → News g L h' (news' i ti) → Q .none { s with heap := h', toks := tk' })
    (hexc : ¬ e ≤ i → ∀ h' tk' ex i' ti', Exc g outer (envOf qual scope L f' cd :: outer) ex (news' i' ti') h' → h'.Ns L m → E (.ref ex) { s with heap := h', toks := tk' })
    (hk : scope.kind = .function) : wpAny (MW w) (A.deeper (envOf qual scope L f' cd)) (call (.ref 67) [.ref x]) Q E s :=
  CurC.w (c_want hlt) a F N hx hd U hr (fun h' tk' v i' ti' r F' N' => by obtain ⟨rfl, rfl, h1, rfl⟩ := r; exact hret h1 _ _ F' N') hexc hk
end
-- Lg
/-- what stands of a section's reading: names, their dict, the two dicts, a cursor, the inner dicts -/
noncomputable abbrev rpOwn (w : World) (y dy df dl x dx : Nat) (bs : Array UInt8) (e : Int) (t1 t2 t3 tb te u1 u2 u3 u4 : Tok) (mv : Value) (of ol : Obj) (i : Int) (ti : Tok) (inn : List (Addr × Obj)) : List (Addr × Obj) :=
  (y, instObj 219 dy) :: (dy, namD w mv df dl true u1 u2 u3 u4) :: (df, of) :: (dl, ol) :: (x, instObj 183 dx) :: (dx, curD w bs i e t1 t2 t3 tb ti te) :: inn
structure Tells (w : World) (st : St) (mv : Value) (of ol : Obj) (inn : List (Addr × Obj)) : Prop where
  m : ModV mv st.mod
  f : ∃ kf, of.IsDictOf (PySem.intKind PySem.Challenge.pw_nm0124_01 w) kf ∧ KvS kf st.fs
  r : ∃ kl, ol.IsDictOf (PySem.intKind PySem.Challenge.pw_nm0124_01 w) kl ∧ RowS w kl inn st.rs
theorem KvS.nil_inv {kv : List (Int × Value)} (h : KvS kv []) : kv = [] := by cases h; rfl
theorem RowS.nil_inv {w : World} {kv : List (Int × Value)} {inn : List (Addr × Obj)} (h : RowS w kv inn []) : kv = [] ∧ inn = [] := by cases h; exact ⟨rfl, rfl⟩
theorem readP_0n {ks : List Int} {e i : Int} {st : St} (h : nameP ks e i = none) : readP ks e i 0 st = (st, false) := by
  unfold readP; rw [if_pos rfl, h]
theorem readP_0s {ks : List Int} {e i j : Int} {cs : List Int} {st : St} (h : nameP ks e i = some (cs, j)) : readP ks e i 0 st = ({ st with mod := some cs }, decide (e ≤ j)) := by
  unfold readP; rw [if_pos rfl, h]
theorem readP_1n {ks : List Int} {e i : Int} {st : St} (h : (mapsP ks e i).2 = none) : readP ks e i 1 st = ({ st with fs := (mapsP ks e i).1 }, false) := by
  unfold readP; rw [if_neg (by decide), if_pos rfl, h]
theorem readP_1s {ks : List Int} {e i j : Int} {st : St} (h : (mapsP ks e i).2 = some j) : readP ks e i 1 st = ({ st with fs := (mapsP ks e i).1 }, decide (e ≤ j)) := by
  unfold readP; rw [if_neg (by decide), if_pos rfl, h]
theorem readP_2n {ks : List Int} {e i : Int} {st : St} (h : (rowsP ks e i).2 = none) : readP ks e i 2 st = ({ st with rs := (rowsP ks e i).1 }, false) := by
  unfold readP; rw [if_neg (by decide), if_neg (by decide), if_pos rfl, h]
theorem readP_2s {ks : List Int} {e i j : Int} {st : St} (h : (rowsP ks e i).2 = some j) : readP ks e i 2 st = ({ st with rs := (rowsP ks e i).1 }, decide (e ≤ j)) := by
  unfold readP; rw [if_neg (by decide), if_neg (by decide), if_pos rfl, h]
theorem readP_3 {ks : List Int} {e i sort : Int} {st : St} (h0 : sort ≠ 0) (h1 : sort ≠ 1) (h2 : sort ≠ 2) : readP ks e i sort st = (st, true) := by
  unfold readP; rw [if_neg h0, if_neg h1, if_neg h2]
section
variable {w : World} {mean : ExcName → Option Value} {mg mb : PySem.Str → Option Value} {A : Around} {base g : Heap} {outer : List Env} {s : Shared} {Q E : Value → Shared → Prop}
  {x dx : Nat} {bs : Array UInt8} {ks : List Int} {i e : Int} {t1 t2 t3 tb ti te : Tok}
theorem c_rpart (hlt : dx < x) {y dy df dl : Nat} (l1 : dy < y) (l2 : y < df) (l3 : df < dl) (l4 : dl < dx) (hb : KBw.bInts bs = ks) (h0 : 0 ≤ i) (hie : i ≤ e) (he : e ≤ ks.length) (hz : ks.length ≤ 1000) {sort : Int} {ts u1 u2 u3 u4 : Tok} {st : St} {mv : Value} {of ol : Obj} {inn : List (Addr × Obj)}
    (tl : Tells w st mv of ol inn) (hf : sort = 1 → st.fs = []) (hrs : sort = 2 → st.rs = []) (ofy : Off inn y) (ofdy : Off inn dy) (ofdf : Off inn df) (ofdl : Off inn dl) (ofx : Off inn x) (ofdx : Off inn dx)
    (a : Amb w mean mg mb A base outer g) (ov : Over g s (rpOwn w y dy df dl x dx bs e t1 t2 t3 tb te u1 u2 u3 u4 mv of ol i ti inn)) (hr : Rm A 30)
    (hret : (readP ks e i sort st).2 = true → ∀ h' tk' mv' of' ol' inn' i' ti', Tells w (readP ks e i sort st).1 mv' of' ol' inn' → Off inn' y → Off inn' dy → Off inn' df → Off inn' dl → Off inn' x → Off inn' dx → Over g { s with heap := h', toks := tk' } (rpOwn w y dy df dl x dx bs e t1 t2 t3 tb te u1 u2 u3 u4 mv' of' ol' i' ti' inn') → Q .none { s with heap := h', toks := tk' })
    (hexc : (readP ks e i sort st).2 = false → ∀ h' tk' ex mv' of' ol' inn' i' ti', Tells w (readP ks e i sort st).1 mv' of' ol' inn' → Off inn' y → Off inn' dy → Off inn' df → Off inn' dl → Off inn' x → Off inn' dx → Exc g outer outer ex (rpOwn w y dy df dl x dx bs e t1 t2 t3 tb te u1 u2 u3 u4 mv' of' ol' i' ti' inn') h' → E (.ref ex) { s with heap := h', toks := tk' }) :
    wpAny (MW w) A (call (.ref 244) [.ref y, .int sort ts, .ref x]) Q E s := by
  obtain ⟨hd, dp, fr, gd, un⟩ := A
  obtain rfl : hd = none := a.hh
  obtain rfl : fr = some outer := a.B.stack
  have X := a.X
  have T := a.T
  have B := a.B
  refine wpAny_call ?_
  refine' enter (binds := [(PySem.Str.ofString "names", .ref y), (PySem.Str.ofString "sort", .int sort ts), (PySem.Str.ofString "part", .ref x)]) a ov ?k6 ?k7 ?k8 ?k9 ?kB ?_ ?c2 ?c3 ?c4 ?c5
  (case k6 => k_is)
  (case k7 => k_is)
  (case k8 => exact hr.depth)
  (case k9 => first | exact BindsTo.of_eq rfl | exact binds_K (a.X.keeps ov.st) rfl (by k_is) rfl rfl rfl)
  (case kB => exact locs rfl)
  (case c2 => exact rfl)
  (case c3 => exact rfl)
  (case c4 => exact rfl)
  (case c5 => decide)
  intro L F0 tk F N
  dsimp only [ifs, List.reverse, List.reverseAux] at F
  dsimp only [rpOwn] at N
  conv in (occs := *) fnBody _ => all_goals whnf
  conv in (occs := *) fnScope _ => all_goals whnf
  try dsimp only
  k_fold
  repeat' (first | (k_unfold; (try dsimp only)) | (k_end; wrow_close) | ((fail_if_success fail_if_success with_reducible show wpAny _ _ (call (Value.ref _) _ _) _ _ _); (k_dflt (refine w_want (by assumption) (by assumption) (by assumption) (by k_mem) (by k_mem) (fun _ _ => by k_upd) (by assumption) (Rm.le (by assumption) (by decide)) (fun hw' h' tk' F' N' => ?_) (fun z' h' tk' ex' i' ti' x' n' => ?_) rfl))) | ((fail_if_success fail_if_success with_reducible show wpAny _ _ (call (Value.ref _) _ _) _ _ _); (k_dflt (refine w_name (ks := ks) (by assumption) (by assumption) (by assumption) (by k_mem) (by k_mem) (fun _ _ => by k_upd) (by assumption) (by assumption) (by first | assumption | lia) (by first | assumption | lia) (by first | assumption | lia) (Rm.le (by assumption) (by decide)) (fun cs' i'' hu' hu3' hu4' h' tk' t' ti' F' N' => ?_) (fun z' h' tk' ex' i' ti' x' n' => ?_) rfl))) | ((fail_if_success fail_if_success with_reducible show wpAny _ _ (call (Value.ref _) _ _) _ _ _); (k_dflt (refine w_take (ks := ks) (by assumption) (by assumption) (by assumption) (by k_mem) (by k_mem) (fun _ _ => by k_upd) (by assumption) (by assumption) (by first | assumption | lia) (by first | assumption | lia) (by first | assumption | lia) (by first | assumption | lia)  (Rm.le (by assumption) (by decide)) (fun hm' h' tk' b' t' ti' hb' F' N' => ?_) (fun z' h' tk' ex' i' ti' x' n' => ?_) rfl))) | ((fail_if_success fail_if_success with_reducible show wpAny _ _ (call (Value.ref _) _ _) _ _ _); (k_dflt (refine w_left (by assumption) (by assumption) (by assumption) (by k_mem) (by k_mem) (fun _ _ => by k_upd) (by assumption) (Rm.le (by assumption) (by decide)) (fun h' tk' t' F' N' => ?_) (fun z' => absurd z' (fun h => h)) rfl); (try dsimp only at F' N'); try k_sweep)) | ((fail_if_success fail_if_success with_reducible show wpAny _ _ (leaving _ (Value.ref _)) _ _ _); (first | (k_dflt (refine leave_first (by assumption) (by assumption) (by assumption) (by assumption) (fun h'' x'' => ?_) rfl)) | (k_dflt (refine leave_next (by assumption) (by assumption) fun h'' x'' => ?_)))) | walk1 | (dsimp only; (first | ((fail_if_success fail_if_success with_reducible show wpAny _ _ (call (Value.ref _) _ _) _ _ _); (k_dflt (refine w_want (by assumption) (by assumption) (by assumption) (by k_mem) (by k_mem) (fun _ _ => by k_upd) (by assumption) (Rm.le (by assumption) (by decide)) (fun hw' h' tk' F' N' => ?_) (fun z' h' tk' ex' i' ti' x' n' => ?_) rfl))) | ((fail_if_success fail_if_success with_reducible show wpAny _ _ (call (Value.ref _) _ _) _ _ _); (k_dflt (refine w_name (ks := ks) (by assumption) (by assumption) (by assumption) (by k_mem) (by k_mem) (fun _ _ => by k_upd) (by assumption) (by assumption) (by first | assumption | lia) (by first | assumption | lia) (by first | assumption | lia) (Rm.le (by assumption) (by decide)) (fun cs' i'' hu' hu3' hu4' h' tk' t' ti' F' N' => ?_) (fun z' h' tk' ex' i' ti' x' n' => ?_) rfl))) | ((fail_if_success fail_if_success with_reducible show wpAny _ _ (call (Value.ref _) _ _) _ _ _); (k_dflt (refine w_take (ks := ks) (by assumption) (by assumption) (by assumption) (by k_mem) (by k_mem) (fun _ _ => by k_upd) (by assumption) (by assumption) (by first | assumption | lia) (by first | assumption | lia) (by first | assumption | lia) (by first | assumption | lia)  (Rm.le (by assumption) (by decide)) (fun hm' h' tk' b' t' ti' hb' F' N' => ?_) (fun z' h' tk' ex' i' ti' x' n' => ?_) rfl))) | ((fail_if_success fail_if_success with_reducible show wpAny _ _ (call (Value.ref _) _ _) _ _ _); (k_dflt (refine w_left (by assumption) (by assumption) (by assumption) (by k_mem) (by k_mem) (fun _ _ => by k_upd) (by assumption) (Rm.le (by assumption) (by decide)) (fun h' tk' t' F' N' => ?_) (fun z' => absurd z' (fun h => h)) rfl); (try dsimp only at F' N'); try k_sweep)) | ((fail_if_success fail_if_success with_reducible show wpAny _ _ (leaving _ (Value.ref _)) _ _ _); (first | (k_dflt (refine leave_first (by assumption) (by assumption) (by assumption) (by assumption) (fun h'' x'' => ?_) rfl)) | (k_dflt (refine leave_next (by assumption) (by assumption) fun h'' x'' => ?_)))) | walk1)) | (leave1; (try dsimp only)) | fail "no step")
  · obtain rfl : sort = 0 := by assumption
    rw [readP_0s (by assumption)] at hret
    exact hret (decide_eq_true (by assumption)) _ _ _ _ _ _ _ _ ⟨⟨_, rfl⟩, tl.f, tl.r⟩ ofy ofdy ofdf ofdl ofx ofdx (Over.of (by assumption) (by assumption))
  · obtain rfl : sort = 0 := by assumption
    rw [readP_0s (by assumption)] at hexc
    exact hexc (decide_eq_false (by assumption)) _ _ _ _ _ _ _ _ _ ⟨⟨_, rfl⟩, tl.f, tl.r⟩ ofy ofdy ofdf ofdl ofx ofdx (by assumption)
  · obtain rfl : sort = 0 := by assumption
    rw [readP_0n (by assumption)] at hexc
    exact hexc rfl _ _ _ _ _ _ _ _ _ tl ofy ofdy ofdf ofdl ofx ofdx (by assumption)
  · obtain rfl : sort = 1 := by assumption
    obtain ⟨tm, ⟨kf, hd, hkf⟩, tr⟩ := tl
    rw [hf rfl] at hkf
    obtain rfl := hkf.nil_inv
    repeat' (first | (k_unfold; (try dsimp only)) | (k_end; wrow_close) | ((fail_if_success fail_if_success with_reducible show wpAny _ _ (call (Value.ref _) _ _) _ _ _); (k_dflt (refine w_want (by assumption) (by assumption) (by assumption) (by k_mem) (by k_mem) (fun _ _ => by k_upd) (by assumption) (Rm.le (by assumption) (by decide)) (fun hw' h' tk' F' N' => ?_) (fun z' h' tk' ex' i' ti' x' n' => ?_) rfl))) | ((fail_if_success fail_if_success with_reducible show wpAny _ _ (call (Value.ref _) _ _) _ _ _); (k_dflt (refine w_map (ks := ks) (by assumption) (by assumption) (by assumption) (by k_mem) (by k_mem) (by k_mem) (fun _ _ _ => Puts.cons (by k_upd) (Puts.cons (by k_upd) Puts.nil)) (by assumption) (by assumption) (by first | assumption | lia) (by first | assumption | lia) (by first | assumption | lia) (by first | assumption | lia) (by first | assumption | lia) (by assumption) (Rm.le (by assumption) (by decide)) (fun j' hj' hj1 hj2 h' tk' o' kvs' ti' hd' hk' F' N' => ?_) (fun z' h' tk' ex' o' kvs' i' ti' hd' hk' x' n' => ?_) rfl))) | ((fail_if_success fail_if_success with_reducible show wpAny _ _ (leaving _ (Value.ref _)) _ _ _); (first | (k_dflt (refine leave_first (by assumption) (by assumption) (by assumption) (by assumption) (fun h'' x'' => ?_) rfl)) | (k_dflt (refine leave_next (by assumption) (by assumption) fun h'' x'' => ?_)))) | walk1 | (dsimp only; (first | ((fail_if_success fail_if_success with_reducible show wpAny _ _ (call (Value.ref _) _ _) _ _ _); (k_dflt (refine w_want (by assumption) (by assumption) (by assumption) (by k_mem) (by k_mem) (fun _ _ => by k_upd) (by assumption) (Rm.le (by assumption) (by decide)) (fun hw' h' tk' F' N' => ?_) (fun z' h' tk' ex' i' ti' x' n' => ?_) rfl))) | ((fail_if_success fail_if_success with_reducible show wpAny _ _ (call (Value.ref _) _ _) _ _ _); (k_dflt (refine w_map (ks := ks) (by assumption) (by assumption) (by assumption) (by k_mem) (by k_mem) (by k_mem) (fun _ _ _ => Puts.cons (by k_upd) (Puts.cons (by k_upd) Puts.nil)) (by assumption) (by assumption) (by first | assumption | lia) (by first | assumption | lia) (by first | assumption | lia) (by first | assumption | lia) (by first | assumption | lia) (by assumption) (Rm.le (by assumption) (by decide)) (fun j' hj' hj1 hj2 h' tk' o' kvs' ti' hd' hk' F' N' => ?_) (fun z' h' tk' ex' o' kvs' i' ti' hd' hk' x' n' => ?_) rfl))) | ((fail_if_success fail_if_success with_reducible show wpAny _ _ (leaving _ (Value.ref _)) _ _ _); (first | (k_dflt (refine leave_first (by assumption) (by assumption) (by assumption) (by assumption) (fun h'' x'' => ?_) rfl)) | (k_dflt (refine leave_next (by assumption) (by assumption) fun h'' x'' => ?_)))) | walk1)) | (leave1; (try dsimp only)) | fail "no step")
    · rw [readP_1s (by assumption)] at hret
      exact hret (decide_eq_true (by assumption)) _ _ _ _ _ _ _ _ ⟨tm, ⟨_, by assumption, by assumption⟩, tr⟩ ofy ofdy ofdf ofdl ofx ofdx (Over.of (by assumption) (by assumption))
    · rw [readP_1s (by assumption)] at hexc
      exact hexc (decide_eq_false (by assumption)) _ _ _ _ _ _ _ _ _ ⟨tm, ⟨_, by assumption, by assumption⟩, tr⟩ ofy ofdy ofdf ofdl ofx ofdx (by assumption)
    · rw [readP_1n (by assumption)] at hexc
      exact hexc rfl _ _ _ _ _ _ _ _ _ ⟨tm, ⟨_, by assumption, by assumption⟩, tr⟩ ofy ofdy ofdf ofdl ofx ofdx (by assumption)
  · obtain rfl : sort = 2 := by assumption
    obtain ⟨tm, tf, ⟨kl, hd, hkl⟩⟩ := tl
    rw [hrs rfl] at hkl
    obtain ⟨rfl, rfl⟩ := hkl.nil_inv
    repeat' (first | (k_unfold; (try dsimp only)) | (k_end; wrow_close) | ((fail_if_success fail_if_success with_reducible show wpAny _ _ (call (Value.ref _) _ _) _ _ _); (k_dflt (refine w_rows (ks := ks) (by assumption) (by assumption) (by assumption) (by k_mem) (by k_mem) (by k_mem) (fun _ _ _ => Puts.cons (by k_upd) (Puts.cons (by k_upd) Puts.nil)) (by assumption) (by assumption) (by first | assumption | lia) (by first | assumption | lia) (by first | assumption | lia) (by first | assumption | lia) (by first | assumption | lia) (by assumption) (Rm.le (by assumption) (by decide)) (fun j' hj' hj1 hj2 h' tk' o' kvs' inn' ti' hd' hk' hof' F' N' => ?_) (fun z' h' tk' ex' o' kvs' inn' i' ti' hd' hk' hof' x' n' => ?_) rfl))) | ((fail_if_success fail_if_success with_reducible show wpAny _ _ (leaving _ (Value.ref _)) _ _ _); (first | (k_dflt (refine leave_first (by assumption) (by assumption) (by assumption) (by assumption) (fun h'' x'' => ?_) rfl)) | (k_dflt (refine leave_next (by assumption) (by assumption) fun h'' x'' => ?_)))) | walk1 | (dsimp only; (first | ((fail_if_success fail_if_success with_reducible show wpAny _ _ (call (Value.ref _) _ _) _ _ _); (k_dflt (refine w_rows (ks := ks) (by assumption) (by assumption) (by assumption) (by k_mem) (by k_mem) (by k_mem) (fun _ _ _ => Puts.cons (by k_upd) (Puts.cons (by k_upd) Puts.nil)) (by assumption) (by assumption) (by first | assumption | lia) (by first | assumption | lia) (by first | assumption | lia) (by first | assumption | lia) (by first | assumption | lia) (by assumption) (Rm.le (by assumption) (by decide)) (fun j' hj' hj1 hj2 h' tk' o' kvs' inn' ti' hd' hk' hof' F' N' => ?_) (fun z' h' tk' ex' o' kvs' inn' i' ti' hd' hk' hof' x' n' => ?_) rfl))) | ((fail_if_success fail_if_success with_reducible show wpAny _ _ (leaving _ (Value.ref _)) _ _ _); (first | (k_dflt (refine leave_first (by assumption) (by assumption) (by assumption) (by assumption) (fun h'' x'' => ?_) rfl)) | (k_dflt (refine leave_next (by assumption) (by assumption) fun h'' x'' => ?_)))) | walk1)) | (leave1; (try dsimp only)) | fail "no step")
    · rename ∀ (q : Addr × Obj), q ∈ _ → Off _ q.1 => hof
      have f1 := hof _ (.head _)
      have f2 := hof _ (.tail _ (.head _))
      have f3 := hof _ (.tail _ (.tail _ (.head _)))
      have f4 := hof _ (.tail _ (.tail _ (.tail _ (.head _))))
      have f5 := hof _ (.tail _ (.tail _ (.tail _ (.tail _ (.head _)))))
      have f6 := hof _ (.tail _ (.tail _ (.tail _ (.tail _ (.tail _ (.head _))))))
      dsimp only at f1 f2 f3 f4 f5 f6
      clear hof
      rename News _ _ _ _ => N5
      dsimp only [List.cons_append, List.nil_append] at N5
      repeat' (first | (k_unfold; (try dsimp only)) | (k_end; wrow_close) | ((fail_if_success fail_if_success with_reducible show wpAny _ _ (call (Value.ref _) _ _) _ _ _); (k_dflt (refine w_want (by assumption) (by assumption) (by assumption) (by k_mem) (by k_mem) (fun _ _ => by k_upd) (by assumption) (Rm.le (by assumption) (by decide)) (fun hw' h' tk' F' N' => ?_) (fun z' h' tk' ex' i' ti' x' n' => ?_) rfl))) | ((fail_if_success fail_if_success with_reducible show wpAny _ _ (leaving _ (Value.ref _)) _ _ _); (first | (k_dflt (refine leave_first (by assumption) (by assumption) (by assumption) (by assumption) (fun h'' x'' => ?_) rfl)) | (k_dflt (refine leave_next (by assumption) (by assumption) fun h'' x'' => ?_)))) | walk1 | (dsimp only; (first | ((fail_if_success fail_if_success with_reducible show wpAny _ _ (call (Value.ref _) _ _) _ _ _); (k_dflt (refine w_want (by assumption) (by assumption) (by assumption) (by k_mem) (by k_mem) (fun _ _ => by k_upd) (by assumption) (Rm.le (by assumption) (by decide)) (fun hw' h' tk' F' N' => ?_) (fun z' h' tk' ex' i' ti' x' n' => ?_) rfl))) | ((fail_if_success fail_if_success with_reducible show wpAny _ _ (leaving _ (Value.ref _)) _ _ _); (first | (k_dflt (refine leave_first (by assumption) (by assumption) (by assumption) (by assumption) (fun h'' x'' => ?_) rfl)) | (k_dflt (refine leave_next (by assumption) (by assumption) fun h'' x'' => ?_)))) | walk1)) | (leave1; (try dsimp only)) | fail "no step")
      · rw [readP_2s (by assumption)] at hret
        exact hret (decide_eq_true (by assumption)) _ _ _ _ _ _ _ _ ⟨tm, tf, ⟨_, by assumption, by assumption⟩⟩ f1 f2 f3 f4 f5 f6 (Over.of (by assumption) (by assumption))
      · rw [readP_2s (by assumption)] at hexc
        exact hexc (decide_eq_false (by assumption)) _ _ _ _ _ _ _ _ _ ⟨tm, tf, ⟨_, by assumption, by assumption⟩⟩ f1 f2 f3 f4 f5 f6 (by assumption)
    · rename ∀ (q : Addr × Obj), q ∈ _ → Off _ q.1 => hof
      have f1 := hof _ (.head _)
      have f2 := hof _ (.tail _ (.head _))
      have f3 := hof _ (.tail _ (.tail _ (.head _)))
      have f4 := hof _ (.tail _ (.tail _ (.tail _ (.head _))))
      have f5 := hof _ (.tail _ (.tail _ (.tail _ (.tail _ (.head _)))))
      have f6 := hof _ (.tail _ (.tail _ (.tail _ (.tail _ (.tail _ (.head _))))))
      rw [readP_2n (by assumption)] at hexc
      exact hexc rfl _ _ _ _ _ _ _ _ _ ⟨tm, tf, ⟨_, by assumption, by assumption⟩⟩ f1 f2 f3 f4 f5 f6 (by assumption)
  · rw [readP_3 (by assumption) (by assumption) (by assumption)] at hret
    exact hret rfl _ _ _ _ _ _ _ _ tl ofy ofdy ofdf ofdl ofx ofdx (Over.of (by assumption) (by assumption))
  · exact absurd ‹¬ e ≤ i + (e - i)› (by lia)
  · exact absurd ‹e - i < e - i› (by lia)
end
-- Lh
section
variable {w : World} {mean : ExcName → Option Value} {mg mb : PySem.Str → Option Value} {A : Around} {base g h : Heap} {outer : List Env} {s s' : Shared} {own news own' : List (Addr × Obj)}
  {L f e : Addr} {m : PySem.Str → Option Value} {qual : PySem.Str} {scope : Scope} {cd : Value}
noncomputable abbrev frs (l : List Env) : List Addr := l.filterMap (·.frame)
theorem flyW {Bx : Heap} {l : List Env} {c : Value} (x : Heap.Flying Bx l e c h) : ∃ a0, Heap.FlyingW Bx l e c a0 h := by
  obtain ⟨f1, f2, f3, oe, vs, T, oT, ts, he, hc, hd, h1, r⟩ := x
  have hs : 0 < vs.size := Nat.lt_trans (Nat.zero_lt_one) (Array.getElem?_eq_some_iff.mp h1).1
  exact ⟨vs[0], f1, f2, f3, oe, vs, T, oT, ts, he, ⟨hc, Array.getElem?_eq_getElem hs⟩, hd, h1, r⟩
/-- an exception that reaches this frame, as the kit's handlers want it -/
theorem exc_raised (a : Amb w mean mg mb A base outer g) (x : Exc g outer (envOf qual scope L f cd :: outer) e news h) (hn : h.Ns L m) (hL : g.objs.size ≤ L) :
    ∃ G, Fr g L G m ∧ RaisedSN base G (envOf qual scope L f cd :: outer) e (.ref 58) news h ∧ G.UpToSlots h := by
  obtain ⟨Bx, h1, h2, h3, h4⟩ := x
  obtain ⟨a0, hfl⟩ := flyW h3
  have hBL : Bx.get? L = none := by
    obtain ⟨_, ⟨L', _, hf, hn', _⟩, _⟩ := hfl.2.2.1
    obtain rfl : L = L' := Option.some.inj hf
    exact hn'
  have hgL : g.get? L = none := Heap.get?_none_of_le hL
  have hfs : L ∉ frs outer := fun q => by
    obtain ⟨_, o, ho, _⟩ := a.B.frames.mem q
    rw [hgL] at ho; cases ho
  have kg : ∀ b o, g.get? b = some o → (ktsHeap g (frs outer) h).get? b = some o := fun b o hb => by
    by_cases q : b ∈ frs outer
    · obtain ⟨_, o', ho', hd⟩ := a.B.frames.mem q
      rw [hb] at ho'; cases ho'
      obtain ⟨sl, hs⟩ := h4 b o hb hd
      exact ktsHeap_some (h := g) (g := h) (o := { o with slots := sl }) (sl := o.slots) (frs outer) q hs hb
    · rw [ktsHeap_ne _ q]
      exact hfl.1 b o (h1 b o hb q)
  let hide : List Addr := (List.range h.objs.size).filter fun b => (g.get? b).isNone && b != L
  have hin : ∀ b o, (hideAll (ktsHeap g (frs outer) h) hide).get? b = some o → (ktsHeap g (frs outer) h).get? b = some o ∧ b ∉ hide := fun b o q => ⟨of_hideAll _ q, fun z => by rw [hideAll_none _ z] at q; cases q⟩
  have hout : ∀ b o, (hideAll (ktsHeap g (frs outer) h) hide).get? b = some o → b = L ∨ g.get? b = some o := fun b o q => by
    obtain ⟨q1, q2⟩ := hin b o q
    by_cases z : b = L
    · exact .inl z
    · right
      cases y : g.get? b with
      | none =>
        refine absurd (List.mem_filter.mpr ⟨List.mem_range.mpr ?_, ?_⟩) q2
        · have := Heap.lt_size q1
          rwa [ktsHeap_size] at this
        · simp [y, z]
      | some o' => rw [kg b o' y] at q1; rw [Option.some.inj q1]
  have hnotg : ∀ b o, g.get? b = some o → b ∉ hide := fun b o q z => by
    have := (List.mem_filter.mp z).2
    rw [q] at this; simp at this
  have hnotL : L ∉ hide := fun z => by
    have := (List.mem_filter.mp z).2
    simp at this
  refine ⟨hideAll (ktsHeap g (frs outer) h) hide, ⟨?_, fun b o q => hideAll_get _ (kg b o q) (hnotg b o q), hL⟩, ⟨Bx, a0, fun b o q => ?_, fun b o q hnf => ?_, fun q hq => ⟨(h2 q hq).1, ?_, ?_⟩, hfl⟩, fun b o q hd => ?_⟩
  · obtain ⟨oL, es, ep, ho, r⟩ := hn
    exact ⟨oL, es, ep, hideAll_get _ (by rw [ktsHeap_ne _ hfs]; exact ho) hnotL, r⟩
  · refine h1 b o (a.B.stays b o q) fun z => ?_
    rw [(a.B.frames.mem z).1] at q; cases q
  · rcases hout b o q with rfl | z
    · exact (hnf (List.mem_filterMap.mpr ⟨envOf qual scope b f cd, .head _, rfl⟩)).elim
    · refine h1 b o z fun y => hnf ?_
      obtain ⟨env, he, hf⟩ := List.mem_filterMap.mp y
      exact List.mem_filterMap.mpr ⟨env, .tail _ he, hf⟩
  · cases z : (hideAll (ktsHeap g (frs outer) h) hide).get? q.1 with
    | none => rfl
    | some o =>
      rcases hout _ _ z with y | y
      · have := (h2 q hq).1
        rw [y, hBL] at this; cases this
      · rw [(h2 q hq).2] at y; cases y
  · cases z : base.get? q.1 with
    | none => rfl
    | some o => have := a.B.stays _ _ z; rw [(h2 q hq).2] at this; cases this
  · rcases hout b o q with rfl | z
    · refine ⟨o.slots, ?_⟩
      have := (hin _ _ q).1
      rw [ktsHeap_ne _ hfs] at this
      exact this
    · exact h4 b o z hd
/-- back from a call that may have turned the frames' slots -/
theorem turn_back {g' : Heap} (a : Amb w mean mg mb A base outer g) (XB : (K w.params).In base) (TB : Top view loose mean mg mb base) (D : KtsDicts (frs outer) g) (F : Fr g L s.heap m) (N : News g L s.heap news)
    (t : KtsTurn (frs (envOf qual scope L f cd :: outer)) (gnd s.heap []) g') (ov : Over g' s' own') :
    ∃ g'', KtsTurn (frs outer) g g'' ∧ Amb w mean mg mb A base outer g'' ∧ KtsDicts (frs outer) g'' ∧ Fr g'' L s'.heap m ∧ News g'' L s'.heap (own' ++ news) := by
  have hh : ∀ b o, s.heap.get? b = some o → (gnd s.heap []).get? b = some o := fun b o q => hideAll_get _ q (by simp)
  have hB : (hideAll s.heap (frs (envOf qual scope L f cd :: outer))).StaysIn s'.heap := fun b o q => ov.st b o (t.other b o (hh b o (of_hideAll _ q)) fun z => by rw [hideAll_none _ z] at q; cases q)
  obtain ⟨g'', T, F'', B''⟩ := kts_ground (name := qual) (scope := scope) (a := f) (cd := cd) (h₅ := s'.heap) (B := hideAll s.heap (frs (envOf qual scope L f cd :: outer))) a.B F (fun b o q nf => hideAll_get _ q nf) hB
    (fun b o q _ => by obtain ⟨sl, hs⟩ := t.up (hh b o q); exact ⟨sl, ov.st _ _ hs⟩)
  refine ⟨g'', T, ⟨B'', XB.keeps B''.stays, TB.keeps B''.stays, a.hh⟩, D.turn T, F'', fun p hp => ?_⟩
  rcases List.mem_append.mp hp with hp | hp
  · obtain ⟨p1, p2⟩ := ov.O p hp
    have hs : s.heap.get? p.1 = none := by
      cases z : s.heap.get? p.1 with
      | none => rfl
      | some o => obtain ⟨sl, q⟩ := t.up (hh _ _ z); rw [p2] at q; cases q
    refine ⟨p1, fun z => ?_, T.none_ _ ?_⟩
    · obtain ⟨oL, _, _, ho, _⟩ := F.ns
      rw [z, ho] at hs; cases hs
    · cases z : g.get? p.1 with
      | none => rfl
      | some o => rw [F.keep _ _ z] at hs; cases hs
  · obtain ⟨p1, p2, p3⟩ := N p hp
    refine ⟨hB _ _ (hideAll_get _ p1 (frame_out a N hp)), p2, T.none_ _ p3⟩
end
-- Li1
section
variable {w : World} {mean : ExcName → Option Value} {mg mb : PySem.Str → Option Value} {A : Around} {base g : Heap} {outer : List Env} {s : Shared} {Q E : Value → Shared → Prop}
  {x dx : Nat} {bs : Array UInt8} {ks : List Int} {i e : Int} {t1 t2 t3 tb ti te : Tok}
theorem over4 {p q r t : Addr × Obj} (o : Over g s [p, q, r, t]) : Over g s [r, t, q, p] := o.sub fun z hz => by
  simp only [List.mem_cons, List.not_mem_nil, or_false] at hz ⊢
  rcases hz with h | h | h | h <;> simp [h]
theorem c_ninit (hr : Rm A 4) (a : Amb w mean mg mb A base outer g) (o : Over g s [(x, instObj 219 dx), (dx, emptyDict)]) (hlt : dx < x)
    {R : Result → Shared → Prop}
    (hret : ∀ h' tk' t1 t2 t3 t4 df dl of ol, @LT.lt Nat _ x df → @LT.lt Nat _ df dl → of.IsDictOf (PySem.intKind PySem.Challenge.pw_nm0124_01 w) [] → ol.IsDictOf (PySem.intKind PySem.Challenge.pw_nm0124_01 w) [] →
      Over g { s with heap := h', toks := tk' } [(x, instObj 219 dx), (dx, namD w .none df dl true t1 t2 t3 t4), (df, of), (dl, ol)] → R (.ok (.ret .none)) { s with heap := h', toks := tk' }) :
    codeAny (MW w) A (.call (.ref 216) ⟨[.ref x], []⟩) R s := by
  obtain ⟨hd, dp, fr, gd, un⟩ := A
  obtain rfl : hd = none := a.hh
  obtain rfl : fr = some outer := a.B.stack
  have X := a.X
  have T := a.T
  have B := a.B
  refine' enter (binds := [(PySem.Str.ofString "self", .ref x)]) a o ?k6 ?k7 ?k8 ?k9 ?kB ?_ ?c2 ?c3 ?c4 ?c5
  (case k6 => k_is)
  (case k7 => k_is)
  (case k8 => exact hr.depth)
  (case k9 => first | exact BindsTo.of_eq rfl | exact binds_K (a.X.keeps o.st) rfl (by k_is) rfl rfl rfl)
  (case kB => exact locs rfl)
  (case c2 => exact rfl)
  (case c3 => exact rfl)
  (case c4 => exact rfl)
  (case c5 => decide)
  intro L F0 tk F N
  dsimp only [ifs, List.reverse, List.reverseAux] at F
  conv in (occs := *) fnBody _ => all_goals whnf
  conv in (occs := *) fnScope _ => all_goals whnf
  try dsimp only
  k_fold
  k_steps
  refine hret _ _ _ _ _ _ _ _ _ _ ?_ ?_ ?_ ?_ (over4 (Over.of (by assumption) (by assumption)))
  · lia
  · lia
  · assumption
  · assumption
theorem c_init1 (hr : Rm A 4) (a : Amb w mean mg mb A base outer g) (o : Over g s [(x, instObj 183 dx), (dx, emptyDict)]) (hlt : dx < x)
    {R : Result → Shared → Prop}
    (hret : ∀ h' tk' t1 t2 t3 ti te, Over g { s with heap := h', toks := tk' } (curOwn w x dx bs ks.length t1 t2 t3 tb te 0 ti) → R (.ok (.ret .none)) { s with heap := h', toks := tk' })
    (hb : KBw.bInts bs = ks) (hz : ks.length ≤ 1000) :
    codeAny (MW w) A (.call (.ref 82) ⟨[.ref x, .bytes bs tb], []⟩) R s := by
  obtain ⟨hd, dp, fr, gd, un⟩ := A
  obtain rfl : hd = none := a.hh
  obtain rfl : fr = some outer := a.B.stack
  have X := a.X
  have T := a.T
  have B := a.B
  refine' enter (binds := [(PySem.Str.ofString "self", .ref x), (PySem.Str.ofString "octets", .bytes bs tb), (PySem.Str.ofString "at", .int 0 274), (PySem.Str.ofString "end", .none)]) a o ?k6 ?k7 ?k8 ?k9 ?kB ?_ ?c2 ?c3 ?c4 ?c5
  (case k6 => k_is)
  (case k7 => k_is)
  (case k8 => exact hr.depth)
  (case k9 => first | exact BindsTo.of_eq rfl | exact binds_K (a.X.keeps o.st) rfl (by k_is) rfl rfl rfl)
  (case kB => exact locs rfl)
  (case c2 => exact rfl)
  (case c3 => exact rfl)
  (case c4 => exact rfl)
  (case c5 => decide)
  intro L F0 tk F N
  dsimp only [ifs, List.reverse, List.reverseAux] at F
  conv in (occs := *) fnBody _ => all_goals whnf
  conv in (occs := *) fnScope _ => all_goals whnf
  try dsimp only
  k_fold
  k_steps
  exact hret _ _ _ _ _ _ _ (Over.of (by assumption) (by assumption))
theorem over_made (C : Nat) : Over s.heap { s with heap := (s.heap.push emptyDict).push (instObj C s.heap.objs.size) } [(s.heap.objs.size + 1, instObj C s.heap.objs.size), (s.heap.objs.size, emptyDict)] := by
  refine ⟨fun b o e => Heap.get?_push_of_some _ (Heap.get?_push_of_some _ e), ?_, fun p hp => ?_⟩
  · show s.heap.objs.size ≤ ((s.heap.push emptyDict).push _).objs.size
    rw [Heap.size_push, Heap.size_push]; lia
  · rcases List.mem_cons.mp hp with rfl | hp
    · refine ⟨?_, Heap.get?_none_of_le (Nat.le_succ _)⟩
      have := Heap.get?_push_size (h := s.heap.push emptyDict) (o := instObj C s.heap.objs.size) rfl
      rw [Heap.size_push] at this
      exact this
    · rw [List.mem_singleton.mp hp]
      exact ⟨Heap.get?_push_of_some _ (Heap.get?_push_size _ rfl), Heap.get?_none_of_le (Nat.le_refl _)⟩
theorem made_back {s' : Shared} {L : Addr} {m : PySem.Str → Option Value} {news own : List (Addr × Obj)} (F : Fr g L s.heap m) (N : News g L s.heap news) (o' : Over s.heap s' own) : Fr g L s'.heap m ∧ News g L s'.heap (own ++ news) := by
  refine ⟨F.kept o'.st, fun p hp => ?_⟩
  rcases List.mem_append.mp hp with hp | hp
  · obtain ⟨h1, h2⟩ := o'.O p hp
    refine ⟨h1, fun q => ?_, ?_⟩
    · obtain ⟨oL, _, _, ho, _⟩ := F.ns
      rw [← q, h2] at ho; cases ho
    · cases z : g.get? p.1 with
      | none => rfl
      | some ob => rw [F.keep _ _ z] at h2; cases h2
  · exact ⟨o'.st _ _ (N p hp).1, (N p hp).2⟩
theorem mk219 {rest : List Value} {Q E : Value → Shared → Prop} (a : Amb w mean mg mb A base outer s.heap)
    (hq : codeAny (MW w) (A.under (.builtin "type.__call__" ⟨.ref 219 :: rest, []⟩)) (.call (.ref 216) ⟨.ref (s.heap.objs.size + 1) :: rest, []⟩) (InitBack (s.heap.objs.size + 1) (ResP Q E)) { s with heap := (s.heap.push emptyDict).push (instObj 219 s.heap.objs.size) }) :
    wpAny (MW w) A (call (.ref 219) rest) Q E s := by
  obtain ⟨hh, g', d, t, os⟩ := s
  exact wpAny_call (make_core (makes_of a.X (by k_is)) (looks_findIn (K := K w.params) a.X (r := some (.ref 216)) (by k_is)) (fun self => bind_fn a.X self (by k_is)) (.inl rfl) hq)
theorem rm219 {n : Nat} {vals : List Value} (h : Rm A (n + 1)) : Rm (A.under (.builtin "type.__call__" ⟨.ref 219 :: vals, []⟩)) n := by
  unfold Rm at *
  rw [depth_under_make, units_under_make]
  lia
section
variable {L f' : Addr} {m : PySem.Str → Option Value} {news : List (Addr × Obj)} {qual : PySem.Str} {scope : Scope} {cd : Value}
theorem w_mkCurD {Q E : Value → Shared → Prop} (a : Amb w mean mg mb A base outer g) (F : Fr g L s.heap m) (N : News g L s.heap news) (hr : Rm A 6) (hb : KBw.bInts bs = ks) (hz : ks.length ≤ 1000)
    (hret : ∀ h' tk' x dx t1 t2 t3 te ti, @LT.lt Nat _ dx x → (∀ p ∈ news, p.1 < dx) → @LT.lt Nat _ L dx → Fr g L h' m → News g L h' ((x, instObj 183 dx) :: (dx, curD w bs 0 ks.length t1 t2 t3 tb ti te) :: news) → Q (.ref x) { s with heap := h', toks := tk' })
    (hk : scope.kind = .function) : wpAny (MW w) (A.deeper (envOf qual scope L f' cd)) (call (.ref 183) [.bytes bs tb]) Q E s := by
  have a' := siteA (own := []) (news := news) (qual := qual) (scope := scope) (f := f') (cd := cd) a F N (fun _ h => nomatch h) hk
  refine mk183 a' (c_init1 (rm183 (n := 4) hr.deeper) (a'.under rfl) (over_made 183) (Nat.lt_succ_self _) (fun h' tk' t1 t2 t3 ti te o' => ?_) hb hz)
  obtain ⟨F', N'⟩ := made_back F N o'
  exact ⟨rfl, hret h' tk' _ _ t1 t2 t3 te ti (Nat.lt_succ_self _) (fun p hp => Heap.lt_size (N p hp).1) F.ns.lt F' N'⟩
theorem w_mkNam {Q E : Value → Shared → Prop} (a : Amb w mean mg mb A base outer g) (F : Fr g L s.heap m) (N : News g L s.heap news) (hr : Rm A 6)
    (hret : ∀ h' tk' x dx t1 t2 t3 t4 df dl of ol, @LT.lt Nat _ dx x → @LT.lt Nat _ x df → @LT.lt Nat _ df dl → (∀ p ∈ news, p.1 < dx) → @LT.lt Nat _ L dx → of.IsDictOf (PySem.intKind PySem.Challenge.pw_nm0124_01 w) [] → ol.IsDictOf (PySem.intKind PySem.Challenge.pw_nm0124_01 w) [] →
      Fr g L h' m → News g L h' ((x, instObj 219 dx) :: (dx, namD w .none df dl true t1 t2 t3 t4) :: (df, of) :: (dl, ol) :: news) → Q (.ref x) { s with heap := h', toks := tk' })
    (hk : scope.kind = .function) : wpAny (MW w) (A.deeper (envOf qual scope L f' cd)) (call (.ref 219) []) Q E s := by
  have a' := siteA (own := []) (news := news) (qual := qual) (scope := scope) (f := f') (cd := cd) a F N (fun _ h => nomatch h) hk
  refine mk219 a' (c_ninit (rm219 (n := 4) hr.deeper) (a'.under rfl) (over_made 219) (Nat.lt_succ_self _) fun h' tk' t1 t2 t3 t4 df dl of ol l1 l2 d1 d2 o' => ?_)
  obtain ⟨F', N'⟩ := made_back F N o'
  exact ⟨rfl, hret h' tk' _ _ t1 t2 t3 t4 df dl of ol (Nat.lt_succ_self _) l1 l2 (fun p hp => Heap.lt_size (N p hp).1) F.ns.lt d1 d2 F' N'⟩
theorem w_rpart {Q E : Value → Shared → Prop} {kp : List (Addr × Obj)} {y dy df dl : Nat} {sort : Int} {ts u1 u2 u3 u4 : Tok} {st : St} {mv : Value} {of ol : Obj} {inn : List (Addr × Obj)}
    (a : Amb w mean mg mb A base outer g) (F : Fr g L s.heap m) (N : News g L s.heap news)
    (hin : ∀ p ∈ rpOwn w y dy df dl x dx bs e t1 t2 t3 tb te u1 u2 u3 u4 mv of ol i ti inn, p ∈ news) (hkp : ∀ p ∈ kp, p ∈ news ∧ p.1 ∉ (rpOwn w y dy df dl x dx bs e t1 t2 t3 tb te u1 u2 u3 u4 mv of ol i ti inn).map (·.1))
    (hlt : dx < x) (l1 : dy < y) (l2 : y < df) (l3 : df < dl) (l4 : dl < dx) (hb : KBw.bInts bs = ks) (h0 : 0 ≤ i) (hie : i ≤ e) (he : e ≤ ks.length) (hz : ks.length ≤ 1000)
    (tl : Tells w st mv of ol inn) (hf : sort = 1 → st.fs = []) (hrs : sort = 2 → st.rs = []) (ofy : Off inn y) (ofdy : Off inn dy) (ofdf : Off inn df) (ofdl : Off inn dl) (ofx : Off inn x) (ofdx : Off inn dx) (hr : Rm A 31)
    (hret : (readP ks e i sort st).2 = true → ∀ h' tk' mv' of' ol' inn' i' ti', Tells w (readP ks e i sort st).1 mv' of' ol' inn' → Off inn' y → Off inn' dy → Off inn' df → Off inn' dl → (∀ p ∈ kp, Off inn' p.1) → Fr g L h' m →
      News g L h' (rpOwn w y dy df dl x dx bs e t1 t2 t3 tb te u1 u2 u3 u4 mv' of' ol' i' ti' inn' ++ kp) → Q .none { s with heap := h', toks := tk' })
    (hexc : (readP ks e i sort st).2 = false → ∀ h' tk' ex mv' of' ol' inn' i' ti', Tells w (readP ks e i sort st).1 mv' of' ol' inn' → Off inn' y → Off inn' dy → Off inn' df → Off inn' dl →
      Exc g outer (envOf qual scope L f' cd :: outer) ex (rpOwn w y dy df dl x dx bs e t1 t2 t3 tb te u1 u2 u3 u4 mv' of' ol' i' ti' inn' ++ kp) h' → h'.Ns L m → E (.ref ex) { s with heap := h', toks := tk' })
    (hk : scope.kind = .function) : wpAny (MW w) (A.deeper (envOf qual scope L f' cd)) (call (.ref 244) [.ref y, .int sort ts, .ref x]) Q E s := by
  have hor : ∀ o' : List (Addr × Obj), ∀ p ∈ o' ++ kp, p ∈ o' ∨ (p ∈ news ∧ p.1 ∉ (rpOwn w y dy df dl x dx bs e t1 t2 t3 tb te u1 u2 u3 u4 mv of ol i ti inn).map (·.1)) := fun o' p hp => (List.mem_append.mp hp).imp id (hkp p)
  refine c_rpart hlt l1 l2 l3 l4 hb h0 hie he hz tl hf hrs ofy ofdy ofdf ofdl ofx ofdx (siteA a F N hin hk) (siteO N hin) hr.deeper
    (fun z h' tk' mv' of' ol' inn' i' ti' tl' o1 o2 o3 o4 o5 o6 ov => ?_) fun z h' tk' ex mv' of' ol' inn' i' ti' tl' o1 o2 o3 o4 o5 o6 x' => ?_
  · obtain ⟨F', N'⟩ := site_back F N hin ov (hor _)
    refine hret z h' tk' mv' of' ol' inn' i' ti' tl' o1 o2 o3 o4 (fun p hp q hq e' => ?_) F' N'
    have h1 := (ov.O q (.tail _ (.tail _ (.tail _ (.tail _ (.tail _ (.tail _ hq))))))).2
    have h2 := hideAll_get _ (N p (hkp p hp).1).1 (hkp p hp).2
    rw [e', h2] at h1; cases h1
  · obtain ⟨y', n'⟩ := exc_site a F N hin x' (hor _)
    exact hexc z h' tk' ex mv' of' ol' inn' i' ti' tl' o1 o2 o3 o4 y' n'
theorem offs {inn : List (Addr × Obj)} {z a1 a2 a3 a4 a5 a6 : Nat} {o1 o2 o3 o4 o5 o6 : Obj} (h : Off inn z) (h1 : z ≠ a1) (h2 : z ≠ a2) (h3 : z ≠ a3) (h4 : z ≠ a4) (h5 : z ≠ a5) (h6 : z ≠ a6)
    (q : z ∈ ((a1, o1) :: (a2, o2) :: (a3, o3) :: (a4, o4) :: (a5, o5) :: (a6, o6) :: inn).map (·.1)) : False := by
  simp only [List.map_cons, List.mem_cons] at q
  rcases q with q | q | q | q | q | q | q
  · exact h1 q
  · exact h2 q
  · exact h3 q
  · exact h4 q
  · exact h5 q
  · exact h6 q
  · obtain ⟨r, hr, e⟩ := List.mem_map.mp q
    exact h r hr e
/-- read_part out of read_section's frame: the part's own cursor is dropped -/
theorem w_rpartL {Q E : Value → Shared → Prop} {y dy df dl x' dx' : Nat} {sort i' e' : Int} {ts u1 u2 u3 u4 s1 s2 s3 ti2 te2 : Tok} {st : St} {mv : Value} {of ol : Obj} {inn : List (Addr × Obj)}
    (a : Amb w mean mg mb A base outer g) (F : Fr g L s.heap m) (N : News g L s.heap ((x', instObj 183 dx') :: (dx', curD w bs i' e' s1 s2 s3 tb ti2 te2) :: rpOwn w y dy df dl x dx bs e t1 t2 t3 tb te u1 u2 u3 u4 mv of ol i ti inn))
    (l0 : dx' < x') {c1 c2 c3 c4 c5 c6 : Obj} (hlt' : ∀ p ∈ (y, c1) :: (dy, c2) :: (df, c3) :: (dl, c4) :: (x, c5) :: (dx, c6) :: inn, p.1 < dx')
    (hlt : dx < x) (l1 : dy < y) (l2 : y < df) (l3 : df < dl) (l4 : dl < dx) (hb : KBw.bInts bs = ks) (h0 : 0 ≤ i') (hie : i' ≤ e') (he : e' ≤ ks.length) (hz : ks.length ≤ 1000)
    (tl : Tells w st mv of ol inn) {last : Int} (hf : last < 1 → st.fs = []) (hrs : last < 2 → st.rs = []) (hsl : last < sort) (ofy : Off inn y) (ofdy : Off inn dy) (ofdf : Off inn df) (ofdl : Off inn dl) (ofx : Off inn x) (ofdx : Off inn dx) (hr : Rm A 31)
    (hret : (readP ks e' i' sort st).2 = true → ∀ h' tk' mv' of' ol' inn', Tells w (readP ks e' i' sort st).1 mv' of' ol' inn' → Off inn' y → Off inn' dy → Off inn' df → Off inn' dl → Off inn' x → Off inn' dx → Fr g L h' m →
      News g L h' (rpOwn w y dy df dl x dx bs e t1 t2 t3 tb te u1 u2 u3 u4 mv' of' ol' i ti inn') → Q .none { s with heap := h', toks := tk' })
    (hexc : (readP ks e' i' sort st).2 = false → ∀ h' tk' ex mv' of' ol' inn', Tells w (readP ks e' i' sort st).1 mv' of' ol' inn' → Off inn' y → Off inn' dy → Off inn' df → Off inn' dl →
      Exc g outer (envOf qual scope L f' cd :: outer) ex (rpOwn w y dy df dl x dx bs e t1 t2 t3 tb te u1 u2 u3 u4 mv' of' ol' i ti inn') h' → h'.Ns L m → E (.ref ex) { s with heap := h', toks := tk' })
    (hk : scope.kind = .function) : wpAny (MW w) (A.deeper (envOf qual scope L f' cd)) (call (.ref 244) [.ref y, .int sort ts, .ref x']) Q E s := by
  have lx : x < dx' := hlt' _ (.tail _ (.tail _ (.tail _ (.tail _ (.head _)))))
  have ldl : dl < dx' := hlt' _ (.tail _ (.tail _ (.tail _ (.head _))))
  have hin' : ∀ p ∈ inn, p.1 < dx' := fun p hp => hlt' p (.tail _ (.tail _ (.tail _ (.tail _ (.tail _ (.tail _ hp))))))
  have ofdx' : Off inn dx' := fun p hp => Nat.ne_of_lt (hin' p hp)
  have ofx' : Off inn x' := fun p hp => Nat.ne_of_lt (Nat.lt_trans (hin' p hp) l0)
  have hsub : ∀ (d1 o1 o2 p q : Obj) inn', ∀ z ∈ (y, instObj 219 dy) :: (dy, d1) :: (df, o1) :: (dl, o2) :: (x, p) :: (dx, q) :: inn', ∀ r1 r2 : Addr × Obj, z ∈ ((y, instObj 219 dy) :: (dy, d1) :: (df, o1) :: (dl, o2) :: r1 :: r2 :: inn') ++ [(x, p), (dx, q)] := fun d1 o1 o2 p q inn' z hz r1 r2 => by
    simp only [List.mem_cons, List.mem_append, List.not_mem_nil, or_false] at hz ⊢
    rcases hz with h | h | h | h | h | h | h <;> simp [h]
  refine w_rpart (t1 := s1) (t2 := s2) (t3 := s3) (ti := ti2) (te := te2) (tb := tb) (u1 := u1) (u2 := u2) (u3 := u3) (u4 := u4) (kp := [(x, instObj 183 dx), (dx, curD w bs i e t1 t2 t3 tb ti te)]) a F N (fun p hp => ?_) (fun p hp => ?_) l0 l1 l2 l3 ldl hb h0 hie he hz tl (fun z => hf (by lia)) (fun z => hrs (by lia)) ofy ofdy ofdf ofdl ofx' ofdx' hr
    (fun z h' tk' mv' of' ol' inn' i2 ti3 tl' o1 o2 o3 o4 o5 F' N' => ?_) (fun z h' tk' ex mv' of' ol' inn' i2 ti3 tl' o1 o2 o3 o4 y' n' => ?_) hk
  · simp only [rpOwn, List.mem_cons] at hp ⊢
    rcases hp with h | h | h | h | h | h | h <;> simp [h]
  · refine ⟨?_, fun hq => ?_⟩
    · simp only [List.mem_cons, List.not_mem_nil, or_false] at hp
      rcases hp with h | h <;> simp [h]
    · rcases List.mem_cons.mp hp with rfl | hp
      · exact offs ofx (by lia) (by lia) (by lia) (by lia) (by lia) (by lia) hq
      · rw [List.mem_singleton.mp hp] at hq
        exact offs ofdx (by lia) (by lia) (by lia) (by lia) (by lia) (by lia) hq
  · exact hret z h' tk' mv' of' ol' inn' tl' o1 o2 o3 o4 (o5 _ (.head _)) (o5 _ (.tail _ (.head _))) F' (News_sub N' fun p hp => hsub _ _ _ _ _ _ p hp _ _)
  · exact hexc z h' tk' ex mv' of' ol' inn' tl' o1 o2 o3 o4 (Exc.sub y' fun p hp => hsub _ _ _ _ _ _ p hp _ _) n'
end
end
-- Li2
theorem noteFrame_firstW {M : Model} {A : Around} {E : Value → Shared → Prop} {s : Shared} {base : Heap} {env : Env} {outer : List Env} {L e : Addr} {oe : Obj} {vs : Array Value} {a0 : Value} {Q : Unit → Shared → Prop}
    (hfr : A.frames = some (env :: outer)) (hl : s.heap.FunFrames base (env :: outer)) (hf : env.frame = some L)
    (he : s.heap.get? e = some oe) (hkb : base.StaysIn s.heap) (hen : base.get? e = none) (hd : oe.data = .fields vs) (h1 : vs[1]? = some .none) (h0 : vs[0]? = some a0)
    (h : ∀ h', Heap.NotedW base (env :: outer) e oe.cls a0 (rawInt L) s.heap h' → Q () { s with heap := h' }) : wpAny M A (noteFrame (.ref e) env) Q E s := by
  unfold noteFrame
  simp only [hf]
  refine wpAny_bind (wpAny_field he hd h1 ?_)
  rw [if_neg (by decide)]
  exact wpAny_entryW hfr hl hf he hkb hen hd (Array.getElem?_eq_some_iff.mp h1).1 h0 h
section
variable {w : World} {mean : ExcName → Option Value} {mg mb : PySem.Str → Option Value} {A : Around} {base g h : Heap} {outer : List Env} {s' : Shared} {news : List (Addr × Obj)} {E : Value → Shared → Prop}
  {L f e : Addr} {m : PySem.Str → Option Value} {qual : PySem.Str} {scope : Scope} {cd : Value} {b₀ : Stmt} {suite : List Stmt} {pos np : Pos} {rest : List ExceptHandler} {Q : Flow → Shared → Prop}
theorem mal_test (hk : scope.kind = .function) (hx : (envOf qual scope L f cd).kindOf (PySem.Str.ofString "Malformed") = some .globalImplicit) :
    KtsTest PySem.Challenge.pw_nm0124_01 w (K w.params) view loose mg mb qual scope L f cd (.ref 58) (.Name (PySem.Str.ofString "Malformed") np) true := by
  refine test_name (c := .ref 58) (.inl ?_) ?_ hk hx (by decide)
  · k_is
  · kts_exm
theorem raised_here (a : Amb w mean mg mb A base outer g) (XB : (K w.params).In base) (TB : Top view loose mean mg mb base) (D : KtsDicts (frs outer) g)
    {G : Heap} (F : Fr g L G m) (R : RaisedSN base G (envOf qual scope L f cd :: outer) e (.ref 58) news s'.heap) (hsm : G.UpToSlots s'.heap)
    (hk : scope.kind = .function) (hx : (envOf qual scope L f cd).kindOf (PySem.Str.ofString "Malformed") = some .globalImplicit)
    (hE : PassesOwnAt (MW w) ((A.deeper (envOf qual scope L f cd)).mark (some (.ref e))) (A.deeper (envOf qual scope L f cd)) (envOf qual scope L f cd) E)
    (k : ∀ h' g', KtsTurn (frs outer) g g' → Amb w mean mg mb A base outer g' → KtsDicts (frs outer) g' → (K w.params).In g' → Top view loose mean mg mb g' → Fr g' L h' m → News g' L h' news →
      wpAny (MW w) ((A.deeper (envOf qual scope L f cd)).mark (some (.ref e))) (execs (b₀ :: suite) (envOf qual scope L f cd)) Q E { s' with heap := h' }) :
    wpAny (MW w) (A.deeper (envOf qual scope L f cd)) (handleBy (.ref e) (envOf qual scope L f cd) (.ExceptHandler (some (.Name (PySem.Str.ofString "Malformed") np)) none (b₀ :: suite) pos :: rest)) Q E s' :=
  hit_SN0 R F a.B hsm XB TB D KtsTurn.refl (mal_test hk hx) (fun h' g' T' F' N' B' X' P' D' => k h' g' T' ⟨B', X', P', a.hh⟩ D' X' P' F' N') hE
/-- an exception out of a call, caught in this frame -/
theorem exc_caught (a : Amb w mean mg mb A base outer g) (XB : (K w.params).In base) (TB : Top view loose mean mg mb base) (D : KtsDicts (frs outer) g)
    (x : Exc g outer (envOf qual scope L f cd :: outer) e news s'.heap) (hn : s'.heap.Ns L m) (hL : g.objs.size ≤ L)
    (hk : scope.kind = .function) (hx : (envOf qual scope L f cd).kindOf (PySem.Str.ofString "Malformed") = some .globalImplicit)
    (hE : PassesOwnAt (MW w) ((A.deeper (envOf qual scope L f cd)).mark (some (.ref e))) (A.deeper (envOf qual scope L f cd)) (envOf qual scope L f cd) E)
    (k : ∀ h' g', KtsTurn (frs outer) g g' → Amb w mean mg mb A base outer g' → KtsDicts (frs outer) g' → (K w.params).In g' → Top view loose mean mg mb g' → Fr g' L h' m → News g' L h' news →
      wpAny (MW w) ((A.deeper (envOf qual scope L f cd)).mark (some (.ref e))) (execs (b₀ :: suite) (envOf qual scope L f cd)) Q E { s' with heap := h' }) :
    wpAny (MW w) (A.deeper (envOf qual scope L f cd)) (noteFrame (.ref e) (envOf qual scope L f cd))
      (fun _ s₂ => wpAny (MW w) (A.deeper (envOf qual scope L f cd)) (setFlight (.ref e) none) (fun _ s₃ =>
        wpAny (MW w) (A.deeper (envOf qual scope L f cd)) (handleBy (.ref e) (envOf qual scope L f cd) (.ExceptHandler (some (.Name (PySem.Str.ofString "Malformed") np)) none (b₀ :: suite) pos :: rest)) Q E s₃) E s₂) E s' := by
  obtain ⟨G, F, R, U⟩ := exc_raised a x hn hL
  exact kts_lookSN R F a.B U D fun h' R' U' => raised_here a XB TB D F R' U' hk hx hE k
/-- an exception made in this frame, caught in it -/
theorem made_caught (a : Amb w mean mg mb A base outer g) (XB : (K w.params).In base) (TB : Top view loose mean mg mb base) (D : KtsDicts (frs outer) g)
    (F : Fr g L h m) (N : News g L h news) (mx : MadeX h s'.heap e)
    (hk : scope.kind = .function) (hx : (envOf qual scope L f cd).kindOf (PySem.Str.ofString "Malformed") = some .globalImplicit)
    (hE : PassesOwnAt (MW w) ((A.deeper (envOf qual scope L f cd)).mark (some (.ref e))) (A.deeper (envOf qual scope L f cd)) (envOf qual scope L f cd) E)
    (k : ∀ h' g', KtsTurn (frs outer) g g' → Amb w mean mg mb A base outer g' → KtsDicts (frs outer) g' → (K w.params).In g' → Top view loose mean mg mb g' → Fr g' L h' m → News g' L h' news →
      wpAny (MW w) ((A.deeper (envOf qual scope L f cd)).mark (some (.ref e))) (execs (b₀ :: suite) (envOf qual scope L f cd)) Q E { s' with heap := h' }) :
    wpAny (MW w) (A.deeper (envOf qual scope L f cd)) (noteFrame (.ref e) (envOf qual scope L f cd))
      (fun _ s₂ => wpAny (MW w) (A.deeper (envOf qual scope L f cd)) (setFlight (.ref e) none) (fun _ s₃ =>
        wpAny (MW w) (A.deeper (envOf qual scope L f cd)) (handleBy (.ref e) (envOf qual scope L f cd) (.ExceptHandler (some (.Name (PySem.Str.ofString "Malformed") np)) none (b₀ :: suite) pos :: rest)) Q E s₃) E s₂) E s' := by
  have K' := a.B.push (name := qual) (a := f) (cd := cd) F hk
  obtain ⟨d, t, he⟩ := mx.there
  have hin : ∀ env ∈ (envOf qual scope L f cd :: outer), ∀ b, env.frame = some b → b ∈ (envOf qual scope L f cd :: outer).filterMap (·.frame) := fun env he b hb => List.mem_filterMap.mpr ⟨env, he, hb⟩
  have hfr : s'.heap.FunFrames (hideAll h ((envOf qual scope L f cd :: outer).filterMap (·.frame))) (envOf qual scope L f cd :: outer) := by
    have := funFrames_hide (as := (envOf qual scope L f cd :: outer).filterMap (·.frame)) K'.frames hin
    exact this.of_keeps fun b o e _ => ⟨o, mx.keeps _ _ e, rfl⟩
  have hen : (hideAll h ((envOf qual scope L f cd :: outer).filterMap (·.frame))).get? e = none := by
    cases z : (hideAll h ((envOf qual scope L f cd :: outer).filterMap (·.frame))).get? e with
    | none => rfl
    | some o => have := of_hideAll _ z; rw [mx.new] at this; cases this
  obtain ⟨nL, nm⟩ := site_not (s := ⟨h, s'.gens, s'.drawn, s'.toks, s'.os⟩) F N (own := news) fun _ hp => hp
  have F2 : Fr g L (gnd h news) m := by
    obtain ⟨oL, es, ep, hL, r⟩ := F.ns
    exact ⟨⟨oL, es, ep, hideAll_get _ hL nL, r⟩, fun b o q => hideAll_get _ (F.keep b o q) (nm b o q), F.above⟩
  have U2 : (gnd h news).UpToSlots s'.heap := fun b o q _ => ⟨o.slots, mx.keeps _ _ (of_hideAll _ q)⟩
  refine noteFrame_firstW (base := hideAll h ((envOf qual scope L f cd :: outer).filterMap (·.frame))) K'.stack hfr rfl he (fun b o q => mx.keeps _ _ (of_hideAll _ q)) hen rfl rfl rfl fun h₁ hN => ?_
  obtain ⟨n1, n2, n3, n4⟩ := hN
  refine wpAny_landsW (s := { s' with heap := h₁ }) ⟨n1, hen, n2, n3⟩ fun h₂ fl u2 => ?_
  refine raised_here (s' := { s' with heap := h₂ }) a XB TB D F2 ⟨_, _, fun b o q => ?_, fun b o q nf => ?_, fun q hq => ⟨?_, ?_, ?_⟩, fl⟩ (U2.trans (Heap.UpToSlots.trans n4 u2)) hk hx hE k
  · have hg := a.B.stays b o q
    refine hideAll_get _ (F.keep b o hg) fun z => ?_
    rcases kts_mem z with z | z
    · have hnL : b ≠ L := Nat.ne_of_lt (Nat.lt_of_lt_of_le (Heap.lt_size hg) F.above)
      exact hnL z
    · rw [(a.B.frames.mem z).1] at q; cases q
  · exact hideAll_get _ (of_hideAll _ q) nf
  · exact hideAll_get _ (N q hq).1 (frame_out a N hq)
  · exact hideAll_none _ (List.mem_map_of_mem hq)
  · cases z : base.get? q.1 with
    | none => rfl
    | some o => have := a.B.stays _ _ z; rw [(N q hq).2.2] at this; cases this
end
-- Li
noncomputable def sectP (ks : List Int) : Nat → Int → Int → St → St × Bool
  | 0, _, _, st => (st, false)
  | n + 1, last, i, st =>
    if (ks.length : Int) ≤ i then (st, true) else
    if ks.getD i.toNat 0 ≤ last then (st, false) else
    match u32P ks ks.length (i + 1) with
    | none => (st, false)
    | some (many, j) => if ks.length - j < many then (st, false) else
      if (readP ks (j + many) j (ks.getD i.toNat 0) st).2 then sectP ks n (ks.getD i.toNat 0) (j + many) (readP ks (j + many) j (ks.getD i.toNat 0) st).1
      else ((readP ks (j + many) j (ks.getD i.toNat 0) st).1, false)
theorem sectP_done {ks : List Int} {k : Nat} {last i : Int} {st : St} (h : (ks.length : Int) ≤ i) : sectP ks (k + 1) last i st = (st, true) := by
  rw [sectP, if_pos h]
theorem sectP_low {ks : List Int} {k : Nat} {last i : Int} {st : St} (h : ¬ (ks.length : Int) ≤ i) (h1 : ks.getD i.toNat 0 ≤ last) : sectP ks (k + 1) last i st = (st, false) := by
  rw [sectP, if_neg h, if_pos h1]
theorem sectP_u {ks : List Int} {k : Nat} {last i : Int} {st : St} (h : ¬ (ks.length : Int) ≤ i) (h1 : ¬ ks.getD i.toNat 0 ≤ last) (hu : u32P ks ks.length (i + 1) = none) : sectP ks (k + 1) last i st = (st, false) := by
  rw [sectP, if_neg h, if_neg h1, hu]
theorem sectP_over {ks : List Int} {k : Nat} {last i many j : Int} {st : St} (h : ¬ (ks.length : Int) ≤ i) (h1 : ¬ ks.getD i.toNat 0 ≤ last) (hu : u32P ks ks.length (i + 1) = some (many, j)) (h2 : ks.length - j < many) : sectP ks (k + 1) last i st = (st, false) := by
  rw [sectP, if_neg h, if_neg h1, hu]; exact if_pos h2
theorem sectP_bad {ks : List Int} {k : Nat} {last i many j : Int} {st : St} (h : ¬ (ks.length : Int) ≤ i) (h1 : ¬ ks.getD i.toNat 0 ≤ last) (hu : u32P ks ks.length (i + 1) = some (many, j)) (h2 : many ≤ ks.length - j) (h3 : (readP ks (j + many) j (ks.getD i.toNat 0) st).2 = false) :
    sectP ks (k + 1) last i st = ((readP ks (j + many) j (ks.getD i.toNat 0) st).1, false) := by
  rw [sectP, if_neg h, if_neg h1, hu]
  show (if ks.length - j < many then _ else if _ then _ else _) = _
  rw [if_neg (by lia), if_neg (by rw [h3]; decide)]
theorem sectP_ok {ks : List Int} {k : Nat} {last i many j : Int} {st : St} (h : ¬ (ks.length : Int) ≤ i) (h1 : ¬ ks.getD i.toNat 0 ≤ last) (hu : u32P ks ks.length (i + 1) = some (many, j)) (h2 : many ≤ ks.length - j) (h3 : (readP ks (j + many) j (ks.getD i.toNat 0) st).2 = true) :
    sectP ks (k + 1) last i st = sectP ks k (ks.getD i.toNat 0) (j + many) (readP ks (j + many) j (ks.getD i.toNat 0) st).1 := by
  rw [sectP, if_neg h, if_neg h1, hu]
  show (if ks.length - j < many then _ else if _ then _ else _) = _
  rw [if_neg (by lia), if_pos h3]
theorem readP_fs {ks : List Int} {e i sort : Int} {st : St} (h : sort ≠ 1) : (readP ks e i sort st).1.fs = st.fs := by
  unfold readP
  rw [if_neg h]
  split
  · split <;> rfl
  · split <;> rfl
theorem readP_rs {ks : List Int} {e i sort : Int} {st : St} (h : sort ≠ 2) : (readP ks e i sort st).1.rs = st.rs := by
  unfold readP
  rw [if_neg h]
  split
  · split <;> rfl
  · split <;> rfl
theorem rot6 {g h : Heap} {L : Addr} {a b c d e f : Addr × Obj} (N : News g L h [a, b, c, d, e, f]) : News g L h [c, d, e, f, a, b] := News_sub N fun z hz => by
  simp only [List.mem_cons, List.not_mem_nil, or_false] at hz ⊢
  rcases hz with h | h | h | h | h | h <;> simp [h]
theorem over_rp {g : Heap} {s : Shared} {a b c d e f : Addr × Obj} {inn : List (Addr × Obj)} (o : Over g s (a :: b :: c :: d :: e :: f :: inn)) : Over g s (a :: b :: c :: d :: inn) := o.sub fun z hz => by
  simp only [List.mem_cons] at hz ⊢
  rcases hz with h | h | h | h | h <;> simp [h]
theorem off_nil {a : Nat} : Off [] a := fun _ h => nomatch h
/-- what holds ahead of each turn of read_section's loop -/
inductive JS (w : World) (ks : List Int) (bs : Array UInt8) (tb t1 t2 t3 te u1 u2 u3 u4 : Tok) (y dy df dl x dx : Nat) (n : Nat) (m : PySem.Str → Option Value) (news : List (Addr × Obj)) : Prop
  | mk (i last : Int) (st : St) (mv : Value) (of ol : Obj) (inn : List (Addr × Obj)) (ti tl : Tok) (h1 : sectP ks (ks.length + 1) (-1) 0 ⟨none, [], []⟩ = sectP ks n last i st) (h2 : ks.length - i < n) (h3 : 0 ≤ i) (h4 : i ≤ ks.length) (h5 : Tells w st mv of ol inn) (h6 : (last < 1 → st.fs = [])) (h7 : (last < 2 → st.rs = [])) (h8 : Off inn y) (h9 : Off inn dy) (h10 : Off inn df) (h11 : Off inn dl) (h12 : Off inn x) (h13 : Off inn dx) (h14 : AllOn m [(PySem.Str.ofString "last", .int last tl), (PySem.Str.ofString "cursor", .ref x), (PySem.Str.ofString "names", .ref y), (PySem.Str.ofString "octets", .bytes bs tb)]) (h15 : news = rpOwn w y dy df dl x dx bs ks.length t1 t2 t3 tb te u1 u2 u3 u4 mv of ol i ti inn) : JS w ks bs tb t1 t2 t3 te u1 u2 u3 u4 y dy df dl x dx n m news
section
variable {w : World} {mean : ExcName → Option Value} {mg mb : PySem.Str → Option Value} {A : Around} {base g : Heap} {outer : List Env} {s : Shared} {Q E : Value → Shared → Prop}
  {x dx : Nat} {bs : Array UInt8} {ks : List Int} {i e : Int} {t1 t2 t3 tb ti te : Tok}
theorem c_sect (hb : KBw.bInts bs = ks) (hz : ks.length ≤ 1000) (a : Amb w mean mg mb A base outer g) (o : Over g s []) (XB : (K w.params).In base) (TB : Top view loose mean mg mb base) (D : KtsDicts (frs outer) g) (hr : Rm A 40)
    (hret : ∀ h' tk' y dy df dl mv of ol inn u1 u2 u3 u4 g', KtsTurn (frs outer) g g' → Amb w mean mg mb A base outer g' → KtsDicts (frs outer) g' → Tells w (sectP ks (ks.length + 1) (-1) 0 ⟨none, [], []⟩).1 mv of ol inn →
      @LT.lt Nat _ dy y → @LT.lt Nat _ y df → @LT.lt Nat _ df dl → Off inn y → Off inn dy → Off inn df → Off inn dl →
      Over g' { s with heap := h', toks := tk' } ((y, instObj 219 dy) :: (dy, namD w mv df dl (sectP ks (ks.length + 1) (-1) 0 ⟨none, [], []⟩).2 u1 u2 u3 u4) :: (df, of) :: (dl, ol) :: inn) → Q (.ref y) { s with heap := h', toks := tk' }) :
    wpAny (MW w) A (call (.ref 251) [.bytes bs tb]) Q E s := by
  obtain ⟨hd, dp, fr, gd, un⟩ := A
  obtain rfl : hd = none := a.hh
  obtain rfl : fr = some outer := a.B.stack
  have X := a.X
  have T := a.T
  have B := a.B
  refine wpAny_call ?_
  refine' enter (binds := [(PySem.Str.ofString "octets", .bytes bs tb)]) a o ?k6 ?k7 ?k8 ?k9 ?kB ?_ ?c2 ?c3 ?c4 ?c5
  (case k6 => k_is)
  (case k7 => k_is)
  (case k8 => exact hr.depth)
  (case k9 => first | exact BindsTo.of_eq rfl | exact binds_K (a.X.keeps o.st) rfl (by k_is) rfl rfl rfl)
  (case kB => exact locs rfl)
  (case c2 => exact rfl)
  (case c3 => exact rfl)
  (case c4 => exact rfl)
  (case c5 => decide)
  intro L F0 tk F N
  dsimp only [ifs, List.reverse, List.reverseAux] at F
  conv in (occs := *) fnBody _ => all_goals whnf
  conv in (occs := *) fnScope _ => all_goals whnf
  try dsimp only
  k_fold
  iterate 29 (first | ((fail_if_success fail_if_success with_reducible show wpAny _ _ (call (Value.ref _) _ _) _ _ _); (first | (k_dflt (refine w_mkCurD (ks := ks) (by assumption) (by assumption) (by assumption) (Rm.le (by assumption) (by decide)) (by assumption) (by first | assumption | lia) (fun h' tk' x' dx' t1' t2' t3' te' ti' l1' l2' l3' F' N' => ?_) rfl); (k_lt l2'); (try k_sweep)) | (k_dflt (refine w_mkNam (by assumption) (by assumption) (by assumption) (Rm.le (by assumption) (by decide)) (fun h' tk' x' dx' t1' t2' t3' t4' df' dl' of' ol' l1' l2' l3' l4' l5' d1' d2' F' N' => ?_) rfl); (k_lt l4'); (try k_sweep)))) | walk1)
  rotate_left
  rename Fr _ _ _ _ => F1
  rename News _ _ _ _ => N1
  refine While_inv2 (JS w ks bs tb _ _ _ _ _ _ _ _ _ _ _ _ _ _) (n₀ := ks.length + 1) F1 (rot6 N1) ⟨0, -1, ⟨none, [], []⟩, _, _, _, [], _, _, rfl, by lia, by lia, by lia, ⟨rfl, ⟨_, by assumption, .nil⟩, ⟨_, by assumption, .nil⟩⟩, fun _ => rfl, fun _ => rfl, off_nil, off_nil, off_nil, off_nil, off_nil, off_nil, ⟨rfl, rfl, rfl, rfl, trivial⟩, rfl⟩ ?_
  clear F1 N1
  intro n m₁ news₁ h₁ tk₁ F₁ N₁ J₁
  obtain ⟨i, last, st, mv, of, ol, inn, ti, tl, hw, hn, h0, h1, htl, hf, hrs, o1, o2, o3, o4, o5, o6, hm, rfl⟩ := J₁
  replace F₁ := Fr_on F₁ hm
  dsimp only [ifsE] at F₁
  dsimp only [rpOwn] at N₁
  obtain ⟨k, rfl⟩ : ∃ k, n = k + 1 := ⟨n - 1, by lia⟩
  repeat' (first | (k_unfold; (try dsimp only)) | (k_end; wrow_close) | ((fail_if_success fail_if_success with_reducible show wpAny _ _ (call (Value.ref _) _ _) _ _ _); (k_dflt (refine w_part (ks := ks) (by assumption) (by assumption) (by assumption) (by k_mem) (by k_mem) (fun _ _ => by k_upd) (by assumption) (by assumption) (by first | assumption | lia) (Rm.le (by assumption) (by decide)) (fun hm' h' tk' y' dy' ti' s1' s2' s3' ti2' te2' l1' l2' l3' l4' F' N' => ?_) (fun z' h' tk' ex' i' ti' x' n' => ?_) rfl))) | ((fail_if_success fail_if_success with_reducible show wpAny _ _ (call (Value.ref _) _ _) _ _ _); (k_dflt (refine w_u32 (ks := ks) (by assumption) (by assumption) (by assumption) (by k_mem) (by k_mem) (fun _ _ => by k_upd) (by assumption) (by assumption) (by first | assumption | lia) (by first | assumption | lia) (by first | assumption | lia) (Rm.le (by assumption) (by decide)) (fun n' i'' hu' hu1' hu2' hu3' hu4' h' tk' t' ti' F' N' => ?_) (fun z' h' tk' ex' i' ti' x' n' => ?_) rfl))) | ((fail_if_success fail_if_success with_reducible show wpAny _ _ (call (Value.ref _) _ _) _ _ _); (k_dflt (refine w_octet (ks := ks) (by assumption) (by assumption) (by assumption) (by k_mem) (by k_mem) (fun _ _ => by k_upd) (by assumption) (by assumption) (by first | assumption | lia) (by first | assumption | lia) (by first | assumption | lia) (Rm.le (by assumption) (by decide)) (fun hi' lo' hi2' h' tk' t' ti' F' N' => ?_) (fun z' h' tk' ex' i' ti' x' n' => ?_) rfl))) | ((fail_if_success fail_if_success with_reducible show wpAny _ _ (call (Value.ref _) _ _) _ _ _); (k_dflt (refine w_done (by assumption) (by assumption) (by assumption) (by k_mem) (by k_mem) (fun _ _ => by k_upd) (by assumption) (Rm.le (by assumption) (by decide)) (fun h' tk' F' N' => ?_) (fun z' => absurd z' (fun h => h)) rfl); (try dsimp only at F' N'); try k_sweep)) | ((fail_if_success fail_if_success with_reducible show _ ∧ _); (refine ⟨rfl, by assumption, fun h' e' tk' mx' => ?_⟩)) | ((fail_if_success fail_if_success with_reducible show wpAny _ _ (exec (Stmt.Raise (some _) none _) _) _ _ _); (k_dflt (refine raise_K (by assumption) (by assumption) (Rm.le (by assumption) (by decide)) rfl ?_ rfl rfl rfl rfl))) | ((fail_if_success fail_if_success with_reducible show wpAny _ _ (call (Value.ref _) _ _) _ _ _); (k_dflt (refine w_rpartL (by assumption) (by assumption) (by assumption) (by assumption) (by assumption) (by assumption) (by lia) (by lia) (by lia) (by lia) (by assumption) (by lia) (by lia) (by lia) (by assumption) (by assumption) (by assumption) (by assumption) (by lia) (by assumption) (by assumption) (by assumption) (by assumption) (by assumption) (by assumption) (Rm.le (by assumption) (by decide)) (fun z' h' tk' mv' of' ol' inn' tl' p1' p2' p3' p4' p5' p6' F' N' => ?_) (fun z' h' tk' ex' mv' of' ol' inn' tl' p1' p2' p3' p4' x' n' => ?_) rfl))) | ((fail_if_success fail_if_success with_reducible show wpAny _ _ (noteFrame (Value.ref _) _) _ _ _); (first | (k_dflt (refine made_caught (by assumption) (by assumption) (by assumption) (by assumption) (by assumption) (by assumption) (by assumption) rfl rfl (by passes_own) (fun h' g' T' a' D' X' P' F' N' => ?_))) | (k_dflt (refine exc_caught (by assumption) (by assumption) (by assumption) (by assumption) (by assumption) (by assumption) (Fr.above (by assumption)) rfl rfl (by passes_own) (fun h' g' T' a' D' X' P' F' N' => ?_))))) | walk1 | (dsimp only; (first | ((fail_if_success fail_if_success with_reducible show wpAny _ _ (call (Value.ref _) _ _) _ _ _); (k_dflt (refine w_part (ks := ks) (by assumption) (by assumption) (by assumption) (by k_mem) (by k_mem) (fun _ _ => by k_upd) (by assumption) (by assumption) (by first | assumption | lia) (Rm.le (by assumption) (by decide)) (fun hm' h' tk' y' dy' ti' s1' s2' s3' ti2' te2' l1' l2' l3' l4' F' N' => ?_) (fun z' h' tk' ex' i' ti' x' n' => ?_) rfl))) | ((fail_if_success fail_if_success with_reducible show wpAny _ _ (call (Value.ref _) _ _) _ _ _); (k_dflt (refine w_u32 (ks := ks) (by assumption) (by assumption) (by assumption) (by k_mem) (by k_mem) (fun _ _ => by k_upd) (by assumption) (by assumption) (by first | assumption | lia) (by first | assumption | lia) (by first | assumption | lia) (Rm.le (by assumption) (by decide)) (fun n' i'' hu' hu1' hu2' hu3' hu4' h' tk' t' ti' F' N' => ?_) (fun z' h' tk' ex' i' ti' x' n' => ?_) rfl))) | ((fail_if_success fail_if_success with_reducible show wpAny _ _ (call (Value.ref _) _ _) _ _ _); (k_dflt (refine w_octet (ks := ks) (by assumption) (by assumption) (by assumption) (by k_mem) (by k_mem) (fun _ _ => by k_upd) (by assumption) (by assumption) (by first | assumption | lia) (by first | assumption | lia) (by first | assumption | lia) (Rm.le (by assumption) (by decide)) (fun hi' lo' hi2' h' tk' t' ti' F' N' => ?_) (fun z' h' tk' ex' i' ti' x' n' => ?_) rfl))) | ((fail_if_success fail_if_success with_reducible show wpAny _ _ (call (Value.ref _) _ _) _ _ _); (k_dflt (refine w_done (by assumption) (by assumption) (by assumption) (by k_mem) (by k_mem) (fun _ _ => by k_upd) (by assumption) (Rm.le (by assumption) (by decide)) (fun h' tk' F' N' => ?_) (fun z' => absurd z' (fun h => h)) rfl); (try dsimp only at F' N'); try k_sweep)) | ((fail_if_success fail_if_success with_reducible show _ ∧ _); (refine ⟨rfl, by assumption, fun h' e' tk' mx' => ?_⟩)) | ((fail_if_success fail_if_success with_reducible show wpAny _ _ (exec (Stmt.Raise (some _) none _) _) _ _ _); (k_dflt (refine raise_K (by assumption) (by assumption) (Rm.le (by assumption) (by decide)) rfl ?_ rfl rfl rfl rfl))) | ((fail_if_success fail_if_success with_reducible show wpAny _ _ (call (Value.ref _) _ _) _ _ _); (k_dflt (refine w_rpartL (by assumption) (by assumption) (by assumption) (by assumption) (by assumption) (by assumption) (by lia) (by lia) (by lia) (by lia) (by assumption) (by lia) (by lia) (by lia) (by assumption) (by assumption) (by assumption) (by assumption) (by lia) (by assumption) (by assumption) (by assumption) (by assumption) (by assumption) (by assumption) (Rm.le (by assumption) (by decide)) (fun z' h' tk' mv' of' ol' inn' tl' p1' p2' p3' p4' p5' p6' F' N' => ?_) (fun z' h' tk' ex' mv' of' ol' inn' tl' p1' p2' p3' p4' x' n' => ?_) rfl))) | ((fail_if_success fail_if_success with_reducible show wpAny _ _ (noteFrame (Value.ref _) _) _ _ _); (first | (k_dflt (refine made_caught (by assumption) (by assumption) (by assumption) (by assumption) (by assumption) (by assumption) (by assumption) rfl rfl (by passes_own) (fun h' g' T' a' D' X' P' F' N' => ?_))) | (k_dflt (refine exc_caught (by assumption) (by assumption) (by assumption) (by assumption) (by assumption) (by assumption) (Fr.above (by assumption)) rfl rfl (by passes_own) (fun h' g' T' a' D' X' P' F' N' => ?_))))) | walk1)) | (leave1; (try dsimp only)) | fail "no step")
  · rw [hw, sectP_done (by assumption)] at hret
    exact hret _ _ _ _ _ _ _ _ _ _ _ _ _ _ _ KtsTurn.refl a D htl (by assumption) (by assumption) (by assumption) o1 o2 o3 o4 (over_rp (Over.of (by assumption) (by assumption)))
  · rw [hw, sectP_low (by assumption) (by assumption)] at hret
    exact hret _ _ _ _ _ _ _ _ _ _ _ _ _ _ _ (by assumption) (by assumption) (by assumption) htl (by assumption) (by assumption) (by assumption) o1 o2 o3 o4 (over_rp (Over.of (by assumption) (by assumption)))
  · rename Fr _ _ _ _ => F4
    rename News _ _ _ _ => N4
    replace hw := hw.trans (sectP_ok (by assumption) (by assumption) (by assumption) (by assumption) (by assumption))
    refine wnext F4 N4 (Nat.lt_succ_self _) ⟨_, _, _, _, _, _, _, _, _, hw, ?_, ?_, ?_, by assumption, fun z => ?_, fun z => ?_, by assumption, by assumption, by assumption, by assumption, by assumption, by assumption, ⟨rfl, rfl, rfl, rfl, trivial⟩, rfl⟩
    · lia
    · lia
    · lia
    · rw [readP_fs (by lia)]; exact hf (by lia)
    · rw [readP_rs (by lia)]; exact hrs (by lia)
  · rw [hw, sectP_bad (by assumption) (by assumption) (by assumption) (by assumption) (by assumption)] at hret
    exact hret _ _ _ _ _ _ _ _ _ _ _ _ _ _ _ (by assumption) (by assumption) (by assumption) (by assumption) (by assumption) (by assumption) (by assumption) (by assumption) (by assumption) (by assumption) (by assumption) (over_rp (Over.of (by assumption) (by assumption)))
  · rw [hw, sectP_over (by assumption) (by assumption) (by assumption) (by assumption)] at hret
    exact hret _ _ _ _ _ _ _ _ _ _ _ _ _ _ _ (by assumption) (by assumption) (by assumption) htl (by assumption) (by assumption) (by assumption) o1 o2 o3 o4 (over_rp (Over.of (by assumption) (by assumption)))
  · rw [hw, sectP_u (by assumption) (by assumption) (by assumption)] at hret
    exact hret _ _ _ _ _ _ _ _ _ _ _ _ _ _ _ (by assumption) (by assumption) (by assumption) htl (by assumption) (by assumption) (by assumption) o1 o2 o3 o4 (over_rp (Over.of (by assumption) (by assumption)))
  · exfalso; lia
end
-- Ma
/-- the dict in which the law's reader keeps its octets, its place and its end -/
noncomputable def StD (w : World) (bs : Array UInt8) (i e : Int) (tb ti te : Tok) (o : Obj) : Prop :=
  o.IsDictOf (PySem.strKind PySem.Challenge.pw_nm0124_01 w) [(PySem.Str.ofString "octets", .bytes bs tb), (PySem.Str.ofString "at", .int i ti), (PySem.Str.ofString "end", .int e te)]
section
variable {w : World} {A : Around} {E : Value → Shared → Prop} {hp : Heap} {gs : Array GenState} {dr : Drawn} {tk : Nat} {os : OsState} {h₀ : Heap} {L d : Addr} {m : PySem.Str → Option Value} {news : List (Addr × Obj)} {gg : Obj → List (Addr × Obj)} {o : Obj} {bs : Array UInt8} {i e : Int} {tb ti te t : Tok}
section
variable {value slice : PySem.Expr} {Q : Value → Shared → Prop}
theorem st_octets (N : News h₀ L hp news) (hm : (d, o) ∈ news) (hd : StD w bs i e tb ti te o) (h : Q (.bytes bs tb) ⟨hp, gs, dr, tk + 1, os⟩)
    (hs : subscripted slice false (.ref d) (.str (PySem.Str.ofString "octets") t) = operate [.ref d, .str (PySem.Str.ofString "octets") t] (getItem (.ref d) (.str (PySem.Str.ofString "octets") t))) (hg : ∀ r, letTemporaryGo value (.ref d) r = pure ()) :
    wpAny (MW w) A (subscriptTail value slice (.ref d) (.str (PySem.Str.ofString "octets") t)) Q E ⟨hp, gs, dr, tk, os⟩ := kda_item (s := ⟨hp, gs, dr, tk, os⟩) (knd := PySem.strKind _ _) N hm hd (strKind_is _ _ _ _) rfl h hs hg
theorem st_at (N : News h₀ L hp news) (hm : (d, o) ∈ news) (hd : StD w bs i e tb ti te o) (h : Q (.int i ti) ⟨hp, gs, dr, tk + 1, os⟩)
    (hs : subscripted slice false (.ref d) (.str (PySem.Str.ofString "at") t) = operate [.ref d, .str (PySem.Str.ofString "at") t] (getItem (.ref d) (.str (PySem.Str.ofString "at") t))) (hg : ∀ r, letTemporaryGo value (.ref d) r = pure ()) :
    wpAny (MW w) A (subscriptTail value slice (.ref d) (.str (PySem.Str.ofString "at") t)) Q E ⟨hp, gs, dr, tk, os⟩ := kda_item (s := ⟨hp, gs, dr, tk, os⟩) (knd := PySem.strKind _ _) N hm hd (strKind_is _ _ _ _) rfl h hs hg
theorem st_end (N : News h₀ L hp news) (hm : (d, o) ∈ news) (hd : StD w bs i e tb ti te o) (h : Q (.int e te) ⟨hp, gs, dr, tk + 1, os⟩)
    (hs : subscripted slice false (.ref d) (.str (PySem.Str.ofString "end") t) = operate [.ref d, .str (PySem.Str.ofString "end") t] (getItem (.ref d) (.str (PySem.Str.ofString "end") t))) (hg : ∀ r, letTemporaryGo value (.ref d) r = pure ()) :
    wpAny (MW w) A (subscriptTail value slice (.ref d) (.str (PySem.Str.ofString "end") t)) Q E ⟨hp, gs, dr, tk, os⟩ := kda_item (s := ⟨hp, gs, dr, tk, os⟩) (knd := PySem.strKind _ _) N hm hd (strKind_is _ _ _ _) rfl h hs hg
end
section
variable {Q : Unit → Shared → Prop} {j : Int} {tj : Tok}
theorem st_set_at (F : Fr h₀ L hp m) (N : News h₀ L hp news) (U : UpdF d o news gg) (hd : StD w bs i e tb ti te o)
    (h : ∀ h' o', Fr h₀ L h' m → News h₀ L h' (gg o') → StD w bs j e tb tj te o' → Q () ⟨h', gs, dr, tk + 1, os⟩) : wpAny (MW w) A (setItem (.ref d) (.str (PySem.Str.ofString "at") t) (.int j tj)) Q E ⟨hp, gs, dr, tk, os⟩ :=
  kda_set (s := ⟨hp, gs, dr, tk, os⟩) (knd := PySem.strKind _ _) F N U hd (strKind_is _ _ _ _) (by rw [sizeLine_eq]; exact Nat.le_of_ble_eq_true rfl) h
theorem st_set_end (F : Fr h₀ L hp m) (N : News h₀ L hp news) (U : UpdF d o news gg) (hd : StD w bs i e tb ti te o)
    (h : ∀ h' o', Fr h₀ L h' m → News h₀ L h' (gg o') → StD w bs i j tb ti tj o' → Q () ⟨h', gs, dr, tk + 1, os⟩) : wpAny (MW w) A (setItem (.ref d) (.str (PySem.Str.ofString "end") t) (.int j tj)) Q E ⟨hp, gs, dr, tk, os⟩ :=
  kda_set (s := ⟨hp, gs, dr, tk, os⟩) (knd := PySem.strKind _ _) F N U hd (strKind_is _ _ _ _) (by rw [sizeLine_eq]; exact Nat.le_of_ble_eq_true rfl) h
end
end
theorem lu_val (o found : Int) (j : Nat) : found + o.fmod 128 * 128 ^ (0 + (j : Int)).toNat = found + o % 128 * 128 ^ j := by
  rw [Int.fmod_eq_emod_of_nonneg _ (by decide)]; simp
theorem lu_more0 {o found : Int} {j : Nat} (h4 : 0 ≤ found) (ho : 0 ≤ o) : 0 ≤ found + o.fmod 128 * 128 ^ (0 + (j : Int)).toNat := by
  rw [lu_val]
  have h0 : 0 ≤ o % 128 * 128 ^ j := Int.mul_nonneg (by lia) (Int.pow_nonneg (by decide))
  lia
theorem lu_some {ks : List Int} {e found i : Int} {k j : Nat} (h3 : k + 1 + j = 5) (h4 : 0 ≤ found) (hi : ¬ e ≤ i) (ho : 0 ≤ ks.getD i.toNat 0) (h8 : ks.getD i.toNat 0 < 128)
    (hlt : found + (ks.getD i.toNat 0).fmod 128 * 128 ^ (0 + (j : Int)).toNat < 2 ^ Int.toNat 32) :
    uRd ks e (k + 1) found i = some (found + (ks.getD i.toNat 0).fmod 128 * 128 ^ (0 + (j : Int)).toNat, i + 1) := by
  rw [lu_val] at *
  obtain rfl : j = 5 - (k + 1) := by lia
  refine uRd_done (by lia) (by lia) (fun hk => ?_) h8
  obtain rfl : k = 0 := by lia
  generalize ks.getD i.toNat 0 = o at *
  have h2 : (2 : Int) ^ Int.toNat 32 = 4294967296 := rfl
  have h3 : (128 : Int) ^ (5 - (0 + 1)) = 268435456 := rfl
  rw [h2, h3] at hlt
  lia
theorem lu_none {ks : List Int} {e found i : Int} {k j : Nat} (h3 : k + 1 + j = 5) (h5 : found < 128 ^ j) (ho : 0 ≤ ks.getD i.toNat 0) (h8 : ks.getD i.toNat 0 < 128)
    (hlt : ¬ found + (ks.getD i.toNat 0).fmod 128 * 128 ^ (0 + (j : Int)).toNat < 2 ^ Int.toNat 32) : uRd ks e (k + 1) found i = none := by
  rw [lu_val] at *
  have h2 : (2 : Int) ^ Int.toNat 32 = 4294967296 := rfl
  rw [h2] at hlt
  obtain rfl : j = 5 - (k + 1) := by lia
  by_cases hk : k = 0
  · subst hk
    refine uRd_big 1 (by decide) ?_
    generalize ks.getD i.toNat 0 = o at *
    have h3 : (128 : Int) ^ (5 - (0 + 1)) = 268435456 := rfl
    rw [h3] at hlt h5
    lia
  · have h6 := found_lt (n := k + 1) (found := found) (o := ks.getD i.toNat 0 % 128) (by lia) (by lia) h5 (by lia) (by lia)
    have h7 : (128 : Int) ^ (5 - (k + 1 - 1)) ≤ 268435456 := by
      match k, hk, h3 with
      | 1, _, _ => decide
      | 2, _, _ => decide
      | 3, _, _ => decide
      | 4, _, _ => decide
      | k + 5, _, h => lia
    lia
theorem lu_more {ks : List Int} {e found i : Int} {k j : Nat} (h3 : k + 1 + j = 5) (h4 : 0 ≤ found) (h5 : found < 128 ^ j) (hi : ¬ e ≤ i) (h8 : ¬ ks.getD i.toNat 0 < 128) :
    uRd ks e (k + 1) found i = uRd ks e k (found + (ks.getD i.toNat 0).fmod 128 * 128 ^ (0 + (j : Int)).toNat) (i + 1) ∧
      0 ≤ found + (ks.getD i.toNat 0).fmod 128 * 128 ^ (0 + (j : Int)).toNat ∧ found + (ks.getD i.toNat 0).fmod 128 * 128 ^ (0 + (j : Int)).toNat < 128 ^ (j + 1) := by
  rw [lu_val]
  have h0 : 0 ≤ ks.getD i.toNat 0 % 128 * 128 ^ j := Int.mul_nonneg (by lia) (Int.pow_nonneg (by decide))
  refine ⟨?_, by lia, ?_⟩
  · by_cases hk : k = 0
    · subst hk
      rw [uRd_big 1 (by decide) (by lia)]; rfl
    · rw [uRd_more (by lia) (by lia) h8]
      obtain rfl : j = 5 - (k + 1) := by lia
      rfl
  · generalize ks.getD i.toNat 0 = o at *
    have : o % 128 * 128 ^ j ≤ 127 * 128 ^ j := Int.mul_le_mul_of_nonneg_right (by lia) (Int.pow_nonneg (by decide))
    rw [Int.pow_succ]
    lia
inductive JL (w : World) (d : Nat) (bs : Array UInt8) (ks : List Int) (e : Int) (tb te : Tok) (whole : Option (Int × Int)) (n : Nat) (k : Nat) (m : PySem.Str → Option Value) (news : List (Addr × Obj)) : Prop
  | mk (found i : Int) (o : Obj) (tf ti : Tok) (h1 : whole = uRd ks e n found i) (h2 : 0 ≤ i) (h3 : i ≤ e) (h4 : n + k = 5) (h5 : 0 ≤ found) (h6 : found < 128 ^ k) (h7 : StD w bs i e tb ti te o) (h8 : AllOn m [(PySem.Str.ofString "found", .int found tf), (PySem.Str.ofString "state", .ref d)]) (h9 : news = [(d, o)]) : JL w d bs ks e tb te whole n k m news
section
variable {w : World} {mean : ExcName → Option Value} {mg mb : PySem.Str → Option Value} {A : Around} {base g : Heap} {outer : List Env} {s : Shared} {Q E : Value → Shared → Prop}
  {d : Nat} {o : Obj} {bs : Array UInt8} {ks : List Int} {i e : Int} {tb ti te : Tok}
theorem c_lu32 (hb : KBw.bInts bs = ks) (h0 : 0 ≤ i) (hie : i ≤ e) (he : e ≤ ks.length) (hz : ks.length ≤ 1000) (a : Amb w mean mg mb A base outer g) (hd : StD w bs i e tb ti te o) (ov : Over g s [(d, o)]) (hr : Rm A 8)
    (hret : ∀ h' tk' n t o' j tj, ((0 ≤ n ∧ u32P ks e i = some (n, j)) ∨ (n = -1 ∧ u32P ks e i = none)) → 0 ≤ j → j ≤ e → StD w bs j e tb tj te o' → Over g { s with heap := h', toks := tk' } [(d, o')] → Q (.int n t) { s with heap := h', toks := tk' }) :
    wpAny (MW w) A (call (.ref 324) [.ref d]) Q E s := by
  obtain ⟨hnd, dp, fr, gd, un⟩ := A
  obtain rfl : hnd = none := a.hh
  obtain rfl : fr = some outer := a.B.stack
  have X := a.X
  have T := a.T
  have B := a.B
  refine wpAny_call ?_
  refine' enter (binds := [(PySem.Str.ofString "state", .ref d)]) a ov ?k6 ?k7 ?k8 ?k9 ?kB ?_ ?c2 ?c3 ?c4 ?c5
  (case k6 => k_is)
  (case k7 => k_is)
  (case k8 => exact hr.depth)
  (case k9 => first | exact BindsTo.of_eq rfl | exact binds_K (a.X.keeps ov.st) rfl (by k_is) rfl rfl rfl)
  (case kB => exact locs rfl)
  (case c2 => exact rfl)
  (case c3 => exact rfl)
  (case c4 => exact rfl)
  (case c5 => decide)
  intro L F0 tk F N
  dsimp only [ifs, List.reverse, List.reverseAux] at F
  conv in (occs := *) fnBody _ => all_goals whnf
  conv in (occs := *) fnScope _ => all_goals whnf
  try dsimp only
  k_fold
  iterate 5 walk1
  rotate_left
  rename Fr _ _ _ _ => F2
  refine' For_invVF F2 ?k1 ?k2 ?_
  (case k1 => exact rfl)
  (case k2 => exact rfl)
  iterate 7 walk1
  rotate_left
  rename IsRange _ _ _ _ _ _ _ _ => hR
  rename Fr _ _ _ _ => F3
  rename News _ _ _ _ => N3
  refine iter_rangeUnr (n := 5) rfl hR (by decide) rfl F3 N3 fun I lI => ?_
  (repeat (rename Fr _ _ _ _ => zz; clear zz)); (repeat (rename News _ _ _ _ => zz; clear zz))
  k_lt lI
  refine rangeRest_ind (JL w d bs ks e tb te (u32P ks e i)) ?h0 ?h1 _ _ _ _ ⟨0, i, o, _, _, rfl, by lia, by lia, by lia, by lia, by decide, hd, ⟨rfl, rfl, trivial⟩, rfl⟩
  case h0 =>
    intro _ m₂ news₂ J h₂ tk₂ F₂ N₂
    obtain ⟨found, i₁, o₁, tf, ti₁, hw, h1, h2, h3, h4, h5, hd₁, hm, rfl⟩ := J
    replace F₂ : Fr g L h₂ _ := Fr_on F₂ hm
    replace N₂ : News g L h₂ _ := N₂
    dsimp only [ifsE] at F₂
    dsimp only
    k_steps
    exact hret _ _ _ _ _ _ _ (.inr ⟨rfl, by rw [hw]; rfl⟩) h1 h2 hd₁ (Over.of F₂ N₂)
  case h1 =>
    intro k j m₂ news₂ J u h₂ tk₂ F₂ N₂
    obtain ⟨found, i₁, o₁, tf, ti₁, hw, h1, h2, h3, h4, h5, hd₁, hm, rfl⟩ := J
    replace F₂ : Fr g L h₂ _ := Fr_on F₂ (l := [(PySem.Str.ofString "k", .int _ u), (PySem.Str.ofString "found", .int found tf), (PySem.Str.ofString "state", .ref d)]) ⟨rfl, hm⟩
    replace N₂ : News g L h₂ _ := N₂
    dsimp only [ifsE] at F₂
    dsimp only
    repeat' (first | (k_unfold; (try dsimp only)) | (k_end; wrow_close) | ((fail_if_success fail_if_success with_reducible show wpAny _ _ (setItem (Value.ref _) (Value.str _ _) _) _ _ _); ((with_reducible show wpAny _ _ (setItem (Value.ref _) (Value.str (PySem.Str.ofString "at") _) (Value.int _ _)) _ _ _); (k_dflt (refine st_set_at (by assumption) (by assumption) (by k_updF) (by assumption) ?_   )); intro h' o' F' N' hd'; (try dsimp only at N'))) | ((fail_if_success fail_if_success with_reducible show wpAny _ _ (subscriptTail _ _ _ _) _ _ _); ((with_reducible show wpAny _ _ (subscriptTail _ _ (Value.ref _) (Value.str (PySem.Str.ofString "octets") _)) _ _ _); (k_dflt (refine st_octets (by assumption) (by k_mem) (by assumption) ?_ (by with_unfolding_all rfl) (by intro _; with_unfolding_all rfl))))) | ((fail_if_success fail_if_success with_reducible show wpAny _ _ (subscriptTail _ _ _ _) _ _ _); ((with_reducible show wpAny _ _ (subscriptTail _ _ (Value.ref _) (Value.str (PySem.Str.ofString "end") _)) _ _ _); (k_dflt (refine st_end (by assumption) (by k_mem) (by assumption) ?_ (by with_unfolding_all rfl) (by intro _; with_unfolding_all rfl))))) | ((fail_if_success fail_if_success with_reducible show wpAny _ _ (subscriptTail _ _ _ _) _ _ _); ((with_reducible show wpAny _ _ (subscriptTail _ _ (Value.ref _) (Value.str (PySem.Str.ofString "at") _)) _ _ _); (k_dflt (refine st_at (by assumption) (by k_mem) (by assumption) ?_ (by with_unfolding_all rfl) (by intro _; with_unfolding_all rfl))))) | walk1 | (dsimp only; (first | ((fail_if_success fail_if_success with_reducible show wpAny _ _ (setItem (Value.ref _) (Value.str _ _) _) _ _ _); ((with_reducible show wpAny _ _ (setItem (Value.ref _) (Value.str (PySem.Str.ofString "at") _) (Value.int _ _)) _ _ _); (k_dflt (refine st_set_at (by assumption) (by assumption) (by k_updF) (by assumption) ?_   )); intro h' o' F' N' hd'; (try dsimp only at N'))) | ((fail_if_success fail_if_success with_reducible show wpAny _ _ (subscriptTail _ _ _ _) _ _ _); ((with_reducible show wpAny _ _ (subscriptTail _ _ (Value.ref _) (Value.str (PySem.Str.ofString "octets") _)) _ _ _); (k_dflt (refine st_octets (by assumption) (by k_mem) (by assumption) ?_ (by with_unfolding_all rfl) (by intro _; with_unfolding_all rfl))))) | ((fail_if_success fail_if_success with_reducible show wpAny _ _ (subscriptTail _ _ _ _) _ _ _); ((with_reducible show wpAny _ _ (subscriptTail _ _ (Value.ref _) (Value.str (PySem.Str.ofString "end") _)) _ _ _); (k_dflt (refine st_end (by assumption) (by k_mem) (by assumption) ?_ (by with_unfolding_all rfl) (by intro _; with_unfolding_all rfl))))) | ((fail_if_success fail_if_success with_reducible show wpAny _ _ (subscriptTail _ _ _ _) _ _ _); ((with_reducible show wpAny _ _ (subscriptTail _ _ (Value.ref _) (Value.str (PySem.Str.ofString "at") _)) _ _ _); (k_dflt (refine st_at (by assumption) (by k_mem) (by assumption) ?_ (by with_unfolding_all rfl) (by intro _; with_unfolding_all rfl))))) | walk1)) | (leave1; (try dsimp only)) | fail "no step")
    · exact hret _ _ _ _ _ _ _ (.inr ⟨rfl, by rw [hw, uRd_stop (by lia)]⟩) h1 h2 hd₁ ((Over.of (by assumption) (by assumption)).sub fun q hq => .tail _ hq)
    · rename StD _ _ _ _ _ _ _ _ => hdn
      exact hret _ _ _ _ _ _ _ (.inl ⟨(lu_more0 h4 (by assumption)), by rw [hw, lu_some h3 h4 (by assumption) (by assumption) (by assumption) (by assumption)]⟩) (by lia) (by lia) hdn ((Over.of (by assumption) (by assumption)).sub fun q hq => .tail _ hq)
    · rename StD _ _ _ _ _ _ _ _ => hdn
      exact hret _ _ _ _ _ _ _ (.inr ⟨rfl, by rw [hw, lu_none h3 h5 (by assumption) (by assumption) (by assumption)]⟩) (by lia) (by lia) hdn ((Over.of (by assumption) (by assumption)).sub fun q hq => .tail _ hq)
    · obtain ⟨e1, e2, e3⟩ := lu_more (ks := ks) (e := e) (i := i₁) h3 h4 h5 (by assumption) (by assumption)
      rename StD _ _ _ _ _ _ _ _ => hdn
      exact ⟨_, _, _, _, _, by rw [hw, e1], by lia, by lia, by lia, e2, e3, hdn, ⟨rfl, rfl, trivial⟩, rfl⟩
end
-- Mb
section
variable {w : World} {mean : ExcName → Option Value} {mg mb : PySem.Str → Option Value} {A : Around} {base g : Heap} {outer : List Env} {s : Shared} {own : List (Addr × Obj)}
/-- as enter, for a def with cells -/
theorem enterC {R : Result → Shared → Prop} {name qual : PySem.Str} {params : Arguments} {body : List Stmt} {scope : Scope} {dV kV doc pm cdv ct oc : Value} {an od : Option Addr} {osl : Array (Option Value)} {f : Addr} {args : Args} {binds : List (PySem.Str × Value)}
    (a : Amb w mean mg mb A base outer g) (o : Over g s own)
    (ho : (K w.params).lookup f = some ⟨oc, od, .func (fnOf name qual params body scope dV kV doc pm an cdv ct), osl⟩) (hcd : codeIn (K w.params) cdv qual = true) (hroom : A.depth < recursionLimit)
    (hbind : BindsTo s (fnOf name qual params body scope dV kV doc pm an cdv ct) args binds) (hkind : (binds.all fun y => scope.names.lookup y.1 == some .local || scope.names.lookup y.1 == some .cell) = true)
    (hnd : ((cellsFrom 0 scope.names []).map (·.1)).Nodup)
    (h : ∀ L' h₁ tk cells, Fr g L' h₁ (bindL (envOfC qual scope L' f cdv).kindOf binds fun _ => none) → News g L' h₁ (cells ++ own) →
      CellsAre (bindC (envOfC qual scope L' f cdv).kindOf binds fun _ => none) (cellsFrom (L' + 1) scope.names []) cells → (∀ p ∈ own, p.1 < L') →
      wpAny (MW w) (A.deeper (envOfC qual scope L' f cdv)) (execs body (envOfC qual scope L' f cdv))
        (fun fl s' => R (.ok (.ret (match fl with | .ret v => v | _ => .none))) s')
        (fun e s' => wpAny (MW w) (A.deeper (envOfC qual scope L' f cdv)) (leaving (envOfC qual scope L' f cdv) e) (fun _ s'' => R (.error e) s'') (fun e' s'' => R (.error e') s'') s')
        { s with heap := h₁, toks := tk })
    (hco : scope.isCoroutine = false) (hgen : scope.isGenerator = false) (hk : scope.kind = .function) : codeAny (MW w) A (.call (.ref f) args) R s := by
  have X := a.X.keeps o.st
  refine codeAny_call_function hroom (X _ _ ho) rfl hco hgen rfl (codeRec_of X hcd) (hbind _ _ _ _ ?_)
  refine wpAny_newFunctionEnv_cells hk (kindsX hkind _) fun env' he s' x => ?_
  subst he
  refine ⟨(a.T.nolimit.keeps o.st).keeps x.toInCall.keep, codeAny_func ?_⟩
  obtain ⟨h₁, tk, rfl, _⟩ := x.done
  have hk₁ := x.toInCall.keep
  obtain ⟨cells, NC, Y⟩ := Cl.news (h₀ := s.heap) (Nat.le_refl _) fun n c hm => ⟨x.cell n c (lookup_of_mem_nodup (cellsFrom_names scope.names 0 (s.heap.objs.size + 1) [] [] rfl ▸ hnd) hm), x.above n c hm⟩
  refine h s.heap.objs.size h₁ tk cells ⟨x.toInCall.ns, fun b ob e => hk₁ b ob (o.st b ob e), o.sz⟩ (fun p hp => ?_) Y fun p hp => Heap.lt_size (o.O p hp).1
  rcases List.mem_append.mp hp with hp | hp
  · refine ⟨(NC p hp).1, (NC p hp).2.1, ?_⟩
    cases q : g.get? p.1 with
    | none => rfl
    | some ob => have := o.st _ _ q; rw [(NC p hp).2.2] at this; cases this
  · exact ⟨hk₁ _ _ (o.O p hp).1, Nat.ne_of_lt (Heap.lt_size (o.O p hp).1), (o.O p hp).2⟩
end
section
variable {prog : Program} {w : World} {A : Around} {E : Value → Shared → Prop} {s : Shared} {h₀ : Heap} {L : Addr} {m : PySem.Str → Option Value} {env : Env}
/-- the source of a comprehension, walked by any iterator -/
noncomputable def CompW (prog : Program) (w : World) (A : Around) (h₀ : Heap) (L : Addr) (m : PySem.Str → Option Value) (env : Env) (elt : PySem.Expr) (x : PySem.Str) (scope : Scope) (cl : List (PySem.Str × Addr)) (Fin : Shared → List Value → List (Addr × Obj) → Prop) (it : Value) (s₂ : Shared) : Prop :=
  ∃ I n P St news, it = .ref I ∧ Walks prog w A I [I] [I] n P St ∧ n ≤ sizeLine ∧ St 0 s₂.heap ∧ (∀ i h, St i h → ∃ o, h.get? I = some o) ∧ I < s₂.heap.objs.size ∧ Fr h₀ L s₂.heap m ∧ News h₀ L s₂.heap news ∧ L ≠ I ∧ h₀.get? I = none ∧ (∀ p ∈ news, p.1 ≠ I) ∧
    LCg.CompRest prog w A h₀ L m env elt x scope cl s₂ (fun _ => True) P (Fin s₂) n 0 [] news
theorem comp_frame {I : Addr} {n : Nat} {P : Nat → Value → Prop} {St : Nat → Heap → Prop} (W : Walks prog w A I [I] [I] n P St) (i : Nat) (h h' : Heap) (o : Obj) (st : St i h) (e : h.get? I = some o) (e' : h'.get? I = some o) : St i h' :=
  W.frame i h h' st fun b hb o' ho' => by rw [List.mem_singleton.mp hb] at ho' ⊢; rw [e'] ; rw [e] at ho'; exact ho'
theorem eval_comp {elt iter : PySem.Expr} {x : PySem.Str} {px : Pos} {scope : Scope} {cl : List (PySem.Str × Addr)} {pos : Pos} {Q : Value → Shared → Prop} (_F₀ : Fr h₀ L s.heap m)
    (hclos : closureFor scope env = pure cl) (hcell : ∀ y ∈ scope.names, y.2 ≠ .cell) (hkind : scope.kind = .function)
    (hnames : ∀ y ∈ scope.names, y.2 = .local → scope.names.lookup y.1 = some .local) (hx : scope.names.lookup x = some .local)
    (h : wpAny (model prog w) A (eval iter env) (fun xv s₁ => wpAny (model prog w) A (pyIter xv) (CompW prog w A h₀ L m env elt x scope cl (fun s₂ => LCg.FinE h₀ L m s₂ Q)) E s₁) E s)
    (hs : ∀ x, foldedSetIterable iter env x = pure x) :
    wpAny (model prog w) A (eval (.ListComp elt [⟨.Name x px, iter, [], 0⟩] scope pos) env) Q E s := by
  rw [eval_ListComp]
  refine wpAny_comprehension_free (use := none) rfl hs hclos hkind hnames (wpAny_mono h (fun xv s₁ h₁ => wpAny_mono h₁ (fun it s₂ h₂ => ?_) fun _ _ e => e) fun _ _ e => e)
  obtain ⟨I, n, P, St, news, rfl, W, hsz, st0, hIo, hlt, F, N, hIL, hI0, off, R⟩ := h₂
  refine LCg.block_U W hsz hIo (fun i h h' o nw st e e' _ _ _ => comp_frame W i h h' o st e e') hcell hkind hx st0 (fun b hb => by rw [List.mem_singleton.mp hb]; exact hlt) F N hIL hI0 off trivial R ?_
  intro D C h tk m' ys news' F' N' o1 hn hC₀ hD₀ hCL hDL hCD offC fin
  refine ⟨m', hn, fun h'' hs'' => fin D h'' tk (F'.change hs'' hCL hC₀) (fun p hp => ⟨hs''.extBut _ _ ?_ (N' p hp).1, (N' p hp).2⟩) o1⟩
  rcases List.mem_cons.mp hp with rfl | hp
  · exact Ne.symm hCD
  · exact offC p hp
theorem assign_comp {elt iter : PySem.Expr} {x y : PySem.Str} {px py : Pos} {scope : Scope} {cl : List (PySem.Str × Addr)} {pos spos : Pos} {Q : Flow → Shared → Prop} (_F₀ : Fr h₀ L s.heap m) (hLe : env.locals = L)
    (hsw : swapsWith (.ListComp elt [⟨.Name x px, iter, [], 0⟩] scope pos) (some (.Name y py)) spos.line env = pure true)
    (hclos : closureFor scope env = pure cl) (hcell : ∀ z ∈ scope.names, z.2 ≠ .cell) (hkind : scope.kind = .function)
    (hnames : ∀ z ∈ scope.names, z.2 = .local → scope.names.lookup z.1 = some .local) (hx : scope.names.lookup x = some .local)
    (hy : env.kindOf y = some .local) (hp : (env.scope.kind == .class || (env.scope.kind == .module && env.locals != env.globals)) = false)
    (h : wpAny (model prog w) A (eval iter env) (fun xv s₁ => wpAny (model prog w) A (pyIter xv) (CompW prog w A h₀ L m env elt x scope cl (fun s₂ => LCg.FinA h₀ L m s₂ y Q)) E s₁) E s)
    (hs : ∀ x, foldedSetIterable iter env x = pure x) :
    wpAny (model prog w) A (exec (.Assign [.Name y py] (.ListComp elt [⟨.Name x px, iter, [], 0⟩] scope pos) spos) env) Q E s := by
  subst hLe
  rw [exec_Assign_Name_used _ _ _ _ hsw]
  refine wpAny_bind (wpAny_standAt (wpAny_bind ?_))
  show wpAny _ A (do let _ ← comprehension (.ListComp elt [⟨.Name x px, iter, [], 0⟩] scope pos) scope env _ (newList []) false (eval iter env) (some (assign (.Name y py) env))) _ _ s
  refine wpAny_bind (wpAny_mono (wpAny_comprehension_free (use := some (assign (.Name y py) env)) (Q := fun _ s' => Q .next s') rfl hs hclos hkind hnames
    (wpAny_mono h (fun xv s₁ h₁ => wpAny_mono h₁ (fun it s₂ h₂ => ?_) fun _ _ e => e) fun _ _ e => e)) (fun _ s' hq => wpAny_pure (wpAny_pure hq)) fun _ _ e => e)
  obtain ⟨I, n, P, St, news, rfl, W, hsz, st0, hIo, hlt, F, N, hIL, hI0, off, R⟩ := h₂
  refine LCg.block_U W hsz hIo (fun i h h' o nw st e e' _ _ _ => comp_frame W i h h' o st e e') hcell hkind hx st0 (fun b hb => by rw [List.mem_singleton.mp hb]; exact hlt) F N hIL hI0 off trivial R ?_
  intro D C h' tk m' ys news' F' N' o1 hn hC₀ hD₀ hCL hDL hCD offC fin
  show wpAny _ A (assign (.Name y py) env (.ref D)) _ _ _
  refine wpAny_assign_Name (wpAny_storeName_local hy F'.ns (fun h₂ hn₂ hs₂ => ?_) hp)
  have hL₀ : h₀.get? env.locals = none := Heap.get?_none_of_le F'.above
  have F₂ : Fr h₀ env.locals h₂ (fun z => if z = y then some (.ref D) else m z) := ⟨hn₂, fun b o e => hs₂.extBut b o (fun q => by rw [q, hL₀] at e; cases e) (F'.keep b o e), F'.above⟩
  refine ⟨m', hn.sameBut hs₂ hCL, fun h'' hs'' => fin D h'' _ (F₂.change hs'' hCL hC₀) (fun p hp => ?_) o1⟩
  refine ⟨hs''.extBut _ _ ?_ (hs₂.extBut _ _ (N' p hp).2.1 (N' p hp).1), (N' p hp).2⟩
  rcases List.mem_cons.mp hp with rfl | hp
  · exact Ne.symm hCD
  · exact offC p hp
section
variable {elt : PySem.Expr} {x : PySem.Str} {scope : Scope} {cl : List (PySem.Str × Addr)} {Fin : Shared → List Value → List (Addr × Obj) → Prop} {news : List (Addr × Obj)}
theorem range_comp {r : Addr} {a b c : Int} {t u v : Tok} {n : Nat} (hh : A.handled = none) (F : Fr h₀ L s.heap m) (N : News h₀ L s.heap news) (hr : IsRange s.heap r a b c t u v) (hsm : Builtin.Range.small a b c = true) (hn : Builtin.Range.rangeSize a b c = ((n : Nat) : Int)) (hsz : n ≤ sizeLine)
    (h : ∀ g, LCg.CompRest prog w A h₀ L m env elt x scope cl { s with heap := g } (fun _ => True) (fun i v => ∃ t, v = .int (a + (i : Int) * c) t) (Fin { s with heap := g }) n 0 [] news) :
    wpAny (model prog w) A (pyIter (.ref r)) (CompW prog w A h₀ L m env elt x scope cl Fin) E s := by
  refine wpAny_pyIter_range hr hsm ⟨_, n, _, _, news, rfl, Walks.range hh _ a c n, hsz, ?_, fun i h st => ⟨_, st⟩, ?_, F.keeps fun _ _ e => Heap.get?_push_of_some _ e, N.grown fun _ _ e => Heap.get?_push_of_some _ e, Nat.ne_of_lt F.ns.lt, next_is_new F, fun p hp => Nat.ne_of_lt (Heap.lt_size (N p hp).1), h _⟩
  · show IsRangeIter _ _ _ _ _
    rw [hn]; simpa using Heap.get?_push_size _ rfl
  · show s.heap.objs.size < (s.heap.push _).objs.size
    rw [Heap.size_push]; exact Nat.lt_succ_self _
theorem str_comp {tx : PySem.Str} {t : Tok} (hh : A.handled = none) (F : Fr h₀ L s.heap m) (N : News h₀ L s.heap news) (hsz : tx.cps.size ≤ sizeLine)
    (h : ∀ g, LCg.CompRest prog w A h₀ L m env elt x scope cl { s with heap := g } (fun _ => True) (SignAt tx) (Fin { s with heap := g }) tx.cps.size 0 [] news) :
    wpAny (model prog w) A (pyIter (.str tx t)) (CompW prog w A h₀ L m env elt x scope cl Fin) E s := by
  have go : ∀ (ty : String) (o : Obj), Walks prog w A s.heap.objs.size [s.heap.objs.size] [s.heap.objs.size] tx.cps.size (SignAt tx) (fun i h => h.IsStrIter s.heap.objs.size ty tx t i) → (s.heap.push o).IsStrIter s.heap.objs.size ty tx t 0 →
      CompW prog w A h₀ L m env elt x scope cl Fin (.ref s.heap.objs.size) { s with heap := s.heap.push o } := fun ty o W st => by
    refine ⟨_, _, _, _, news, rfl, W, hsz, st, fun i h st => ⟨st.choose, st.choose_spec.1⟩, ?_, F.keeps fun _ _ e => Heap.get?_push_of_some _ e, N.grown fun _ _ e => Heap.get?_push_of_some _ e, Nat.ne_of_lt F.ns.lt, next_is_new F, fun p hp => Nat.ne_of_lt (Heap.lt_size (N p hp).1), h _⟩
    show s.heap.objs.size < (s.heap.push _).objs.size
    rw [Heap.size_push]; exact Nat.lt_succ_self _
  cases ha : tx.cps.all (· < 128)
  · exact wpAny_pyIter_wide ha (go "str_iterator" _ (Walks.strWide hh _ tx t) ⟨_, Heap.get?_push_size _ rfl, rfl, rfl⟩)
  · exact wpAny_pyIter_ascii ha (go "str_ascii_iterator" _ (Walks.strAscii hh _ tx t) ⟨_, Heap.get?_push_size _ rfl, rfl, rfl⟩)
end
end
/-- the octets of a sign -/
noncomputable def signP (p : Int) : List Int :=
  if p < 128 then [p] else if p < 2048 then [192 + p / 64, 128 + p % 64] else if p < 65536 then [224 + p / 4096, 128 + p / 64 % 64, 128 + p % 64]
  else [240 + p / 262144, 128 + p / 4096 % 64, 128 + p / 64 % 64, 128 + p % 64]
theorem signP_in {p : Int} (h0 : 0 ≤ p) (h1 : p < 1114112) : KBa.In (signP p) := by
  unfold signP
  intro n hn
  split at hn
  · rw [List.mem_singleton.mp hn]; lia
  · split at hn
    · simp only [List.mem_cons, List.not_mem_nil, or_false] at hn; lia
    · split at hn
      · simp only [List.mem_cons, List.not_mem_nil, or_false] at hn; lia
      · simp only [List.mem_cons, List.not_mem_nil, or_false] at hn; lia
theorem signP_len (p : Int) : 1 ≤ (signP p).length ∧ (signP p).length ≤ 4 := by
  unfold signP
  split
  · exact ⟨by simp, by simp⟩
  · split
    · exact ⟨by simp, by simp⟩
    · split <;> exact ⟨by simp, by simp⟩
theorem fd {p k : Int} (h : 0 ≤ k) : p.fdiv k = p / k := Int.fdiv_eq_ediv_of_nonneg _ h
theorem fm {p k : Int} (h : 0 ≤ k) : p.fmod k = p % k := Int.fmod_eq_emod_of_nonneg _ h
theorem sg2 {p : Int} (h1 : ¬ p < 128) (h2 : p < 2048) : [192 + p.fdiv (64 ^ Int.toNat 1), 128 + (p.fdiv (64 ^ (1 - 1 + ((0 : Nat) : Int) * -1).toNat)).fmod 64] = signP p := by
  unfold signP
  rw [if_neg h1, if_pos h2, fd (by decide), fd (by decide), fm (by decide)]
  show [192 + p / 64, 128 + p / 1 % 64] = _
  rw [Int.ediv_one]
theorem sg3 {p : Int} (h1 : ¬ p < 128) (h2 : ¬ p < 2048) (h3 : p < 65536) : [224 + p.fdiv (64 ^ Int.toNat 2), 128 + (p.fdiv (64 ^ (2 - 1 + ((0 : Nat) : Int) * -1).toNat)).fmod 64, 128 + (p.fdiv (64 ^ (2 - 1 + ((0 + 1 : Nat) : Int) * -1).toNat)).fmod 64] = signP p := by
  unfold signP
  rw [if_neg h1, if_neg h2, if_pos h3, fd (by decide), fd (by decide), fm (by decide), fd (by decide), fm (by decide)]
  show [224 + p / 4096, 128 + p / 64 % 64, 128 + p / 1 % 64] = _
  rw [Int.ediv_one]
theorem sg4 {p : Int} (h1 : ¬ p < 128) (h2 : ¬ p < 2048) (h3 : ¬ p < 65536) : [240 + p.fdiv (64 ^ Int.toNat 3), 128 + (p.fdiv (64 ^ (3 - 1 + ((0 : Nat) : Int) * -1).toNat)).fmod 64, 128 + (p.fdiv (64 ^ (3 - 1 + ((0 + 1 : Nat) : Int) * -1).toNat)).fmod 64, 128 + (p.fdiv (64 ^ (3 - 1 + ((0 + 1 + 1 : Nat) : Int) * -1).toNat)).fmod 64] = signP p := by
  unfold signP
  rw [if_neg h1, if_neg h2, if_neg h3, fd (by decide), fd (by decide), fm (by decide), fd (by decide), fm (by decide), fd (by decide), fm (by decide)]
  show [240 + p / 262144, 128 + p / 4096 % 64, 128 + p / 64 % 64, 128 + p / 1 % 64] = _
  rw [Int.ediv_one]
section
variable {w : World} {mean : ExcName → Option Value} {mg mb : PySem.Str → Option Value} {A : Around} {base g : Heap} {outer : List Env} {s : Shared} {Q E : Value → Shared → Prop}
theorem bytes_sign {p : Int} {A : Around} {D L : Addr} {m : PySem.Str → Option Value} {news : List (Addr × Obj)} {vs : List Value} {ns : List Int} (F : Fr g L s.heap m) (N : News g L s.heap news) (hh : A.handled = none) (hl : s.heap.IsList D vs.toArray) (hi : IntsAre vs ns) (e : ns = signP p) (h0 : 0 ≤ p) (h1 : p < 1114112)
    (h : ∀ h' t' k, Fr g L h' m → News g L h' news → KBw.bInts (byteArr ns) = signP p → Q (.bytes (byteArr ns) t') { s with heap := h', toks := k }) : wpAny (MW w) A (call (.type "bytes") [.ref D]) Q E s :=
  KBa.make_K F N hh hl hi (by rw [e]; exact signP_in h0 h1) (by rw [e]; have := signP_len p; lia) fun h' t' k' F' N' hin => h h' t' k' F' N' (by rw [KBa.ints_make hin, e])
theorem c_lsign {p : Int} {tp : Tok} (h0 : 0 ≤ p) (h1 : p < 1114112) (a : Amb w mean mg mb A base outer g) (ov : Over g s []) (hr : Rm A 8)
    (hret : ∀ h' tk' b t, KBw.bInts b = signP p → Over g { s with heap := h', toks := tk' } [] → Q (.bytes b t) { s with heap := h', toks := tk' }) :
    wpAny (MW w) A (call (.ref 270) [.int p tp]) Q E s := by
  obtain ⟨hnd, dp, fr, gd, un⟩ := A
  obtain rfl : hnd = none := a.hh
  obtain rfl : fr = some outer := a.B.stack
  have X := a.X
  have T := a.T
  have B := a.B
  refine wpAny_call ?_
  refine' enterC (binds := [(PySem.Str.ofString "point", .int p tp)]) a ov ?k6 ?k7 ?k8 ?k9 ?kB ?kD ?_ ?c2 ?c3 ?c4
  (case k6 => k_is)
  (case k7 => k_is)
  (case k8 => exact hr.depth)
  (case k9 => first | exact BindsTo.of_eq rfl | exact binds_K (a.X.keeps ov.st) rfl (by k_is) rfl rfl rfl)
  (case kB => exact rfl)
  (case kD => decide +kernel)
  (case c2 => exact rfl)
  (case c3 => exact rfl)
  (case c4 => exact rfl)
  intro L F0 tk cells F N Y' l1
  conv in (occs := *) fnBody _ => all_goals whnf
  conv in (occs := *) fnScope _ => all_goals whnf
  k_cells Y'
  (try simp only [List.cons_append, List.nil_append] at N)
  try dsimp only
  (try k_unmd)
  conv at F in (occs := *) fnScope _ => all_goals whnf
  rename _ = Data.cell _ => dc
  conv at dc in (occs := *) fnScope _ => all_goals whnf
  k_fold
  repeat' (first | (k_unfold; (try dsimp only)) | (k_end; wrow_close) | ((fail_if_success fail_if_success with_reducible show wpAny _ _ (pyIter (Value.ref _)) _ _ _); (k_dflt (refine range_comp (by rfl) (by assumption) (by assumption) (by assumption) (by first | decide | rfl) (by first | rfl | decide) (by first | size_fits | exact Nat.le_of_ble_eq_true rfl) ?_); intro g'; lcg_lit)) | ((fail_if_success fail_if_success with_reducible show wpAny _ _ (exec (Stmt.Assign (_ :: _) (Expr.ListComp _ _ _ _) _) _) _ _ _); (k_dflt (refine assign_comp (by assumption) (by rfl) (by with_unfolding_all rfl) (by with_unfolding_all rfl) (by decide) (by rfl) (by decide) (by rfl) (by rfl) (by rfl) ?_ (by intro _; rfl)))) | walk1 | (dsimp only; (first | ((fail_if_success fail_if_success with_reducible show wpAny _ _ (pyIter (Value.ref _)) _ _ _); (k_dflt (refine range_comp (by rfl) (by assumption) (by assumption) (by assumption) (by first | decide | rfl) (by first | rfl | decide) (by first | size_fits | exact Nat.le_of_ble_eq_true rfl) ?_); intro g'; lcg_lit)) | ((fail_if_success fail_if_success with_reducible show wpAny _ _ (exec (Stmt.Assign (_ :: _) (Expr.ListComp _ _ _ _) _) _) _ _ _); (k_dflt (refine assign_comp (by assumption) (by rfl) (by with_unfolding_all rfl) (by with_unfolding_all rfl) (by decide) (by rfl) (by decide) (by rfl) (by rfl) (by rfl) ?_ (by intro _; rfl)))) | walk1)) | (leave1; (try dsimp only)) | fail "no step")
  · refine hret _ _ _ _ ?_ ((Over.of (by assumption) (by assumption)).sub fun _ h => nomatch h)
    exact (KBa.ints_make (ns := [p]) fun n hn => by rw [List.mem_singleton.mp hn]; lia).trans (by unfold signP; rw [if_pos (by assumption)])
  · exact bytes_sign (by assumption) (by assumption) rfl (by kba_isList) (by kba_listInts) (sg2 (by assumption) (by assumption)) h0 h1 fun h' t' k' F' N' e => hret _ _ _ _ e ((Over.of F' N').sub fun _ h => nomatch h)
  · exact bytes_sign (by assumption) (by assumption) rfl (by kba_isList) (by kba_listInts) (sg3 (by assumption) (by assumption) (by assumption)) h0 h1 fun h' t' k' F' N' e => hret _ _ _ _ e ((Over.of F' N').sub fun _ h => nomatch h)
  · exact bytes_sign (by assumption) (by assumption) rfl (by kba_isList) (by kba_listInts) (sg4 (by assumption) (by assumption) (by assumption)) h0 h1 fun h' t' k' F' N' e => hret _ _ _ _ e ((Over.of F' N').sub fun _ h => nomatch h)
end
-- Mc
noncomputable def lhd (f : Int) : Int × Int := if f < 128 then (1, f) else if f < 224 then (2, f % 32) else if f < 240 then (3, f % 16) else (4, f % 8)
noncomputable def foldC : List Int → Int → Int
  | [], p => p
  | o :: r, p => foldC r (p * 64 + o % 64)
/-- a step of the decoder, on the octets that are left -/
noncomputable def stepL (f : Int) (r : List Int) : Option (Int × Int) :=
  (headP f).bind fun h => if (r.length : Int) < h.1 then none else (contP (r.take h.1.toNat) h.2.1).bind fun q => if q < h.2.2 ∨ 1114111 < q ∨ (55296 ≤ q ∧ q < 57344) then none else some (q, h.1)
noncomputable def LBad (f : Int) (r : List Int) : Prop :=
  1114112 ≤ foldC (r.take ((lhd f).1 - 1).toNat) (lhd f).2 ∨ (55296 ≤ foldC (r.take ((lhd f).1 - 1).toNat) (lhd f).2 ∧ foldC (r.take ((lhd f).1 - 1).toNat) (lhd f).2 < 57344) ∨
    signP (foldC (r.take ((lhd f).1 - 1).toNat) (lhd f).2) ≠ (f :: r).take (lhd f).1.toNat
theorem signP_1 {q : Int} (h : q < 128) : signP q = [q] := if_pos h
theorem signP_2 {q : Int} (h : ¬ q < 128) (h2 : q < 2048) : signP q = [192 + q / 64, 128 + q % 64] := by unfold signP; rw [if_neg h, if_pos h2]
theorem signP_3 {q : Int} (h : ¬ q < 128) (h2 : ¬ q < 2048) (h3 : q < 65536) : signP q = [224 + q / 4096, 128 + q / 64 % 64, 128 + q % 64] := by unfold signP; rw [if_neg h, if_neg h2, if_pos h3]
theorem signP_4 {q : Int} (h : ¬ q < 128) (h2 : ¬ q < 2048) (h3 : ¬ q < 65536) : signP q = [240 + q / 262144, 128 + q / 4096 % 64, 128 + q / 64 % 64, 128 + q % 64] := by unfold signP; rw [if_neg h, if_neg h2, if_neg h3]
theorem contP_1 {b p : Int} : contP [b] p = if 128 ≤ b ∧ b < 192 then some (p * 64 + b % 64) else none := by
  unfold contP; split <;> rfl
theorem contP_2 {b c p : Int} : contP [b, c] p = if (128 ≤ b ∧ b < 192) ∧ (128 ≤ c ∧ c < 192) then some ((p * 64 + b % 64) * 64 + c % 64) else none := by
  rw [contP, contP_1]; split <;> split <;> simp_all
theorem contP_3 {b c d p : Int} : contP [b, c, d] p = if (128 ≤ b ∧ b < 192) ∧ (128 ≤ c ∧ c < 192) ∧ (128 ≤ d ∧ d < 192) then some (((p * 64 + b % 64) * 64 + c % 64) * 64 + d % 64) else none := by
  rw [contP, contP_2]; split <;> split <;> simp_all
theorem sgn1 {q f : Int} : signP q = [f] ↔ q < 128 ∧ q = f := by
  unfold signP
  split
  · simp; lia
  · split
    · simp; lia
    · split <;> (simp; try lia)
theorem sgn2 {q f b : Int} : signP q = [f, b] ↔ 128 ≤ q ∧ q < 2048 ∧ 192 + q / 64 = f ∧ 128 + q % 64 = b := by
  unfold signP
  split
  · simp; lia
  · split
    · simp; lia
    · split <;> (simp; try lia)
theorem sgn3 {q f b c : Int} : signP q = [f, b, c] ↔ 2048 ≤ q ∧ q < 65536 ∧ 224 + q / 4096 = f ∧ 128 + q / 64 % 64 = b ∧ 128 + q % 64 = c := by
  unfold signP
  split
  · simp; lia
  · split
    · simp; lia
    · split <;> (simp; try lia)
theorem sgn4 {q f b c d : Int} : signP q = [f, b, c, d] ↔ 65536 ≤ q ∧ 240 + q / 262144 = f ∧ 128 + q / 4096 % 64 = b ∧ 128 + q / 64 % 64 = c ∧ 128 + q % 64 = d := by
  unfold signP
  split
  · simp; lia
  · split
    · simp; lia
    · split <;> (simp; try lia)
noncomputable def LStep (f : Int) (r : List Int) : Prop := (LBad f r → stepL f r = none) ∧ (¬ LBad f r → stepL f r = some (foldC (r.take ((lhd f).1 - 1).toNat) (lhd f).2, (lhd f).1 - 1))
/-- a sign's octets stand: S what is no sign at all, T that the octets are the sign's -/
theorem lclose {q l n : Int} {C T : Prop} (hT : T ↔ C ∧ l ≤ q) {P : Prop} (hP : P ↔ (1114112 ≤ q ∨ (55296 ≤ q ∧ q < 57344) ∨ ¬ T)) [Decidable C] {o : Option (Int × Int)}
    (ho : o = if C then (if q < l ∨ 1114111 < q ∨ (55296 ≤ q ∧ q < 57344) then none else some (q, n)) else none) : (P → o = none) ∧ (¬ P → o = some (q, n)) := by
  rw [ho, hP, hT]
  by_cases c : C
  · rw [if_pos c]
    by_cases d : q < l ∨ 1114111 < q ∨ (55296 ≤ q ∧ q < 57344)
    · rw [if_pos d]
      refine ⟨fun _ => rfl, fun z => absurd ?_ z⟩
      rcases d with d | d | d
      · exact .inr (.inr fun y => absurd d (Int.not_lt.mpr y.2))
      · exact .inl d
      · exact .inr (.inl d)
    · rw [if_neg d]
      refine ⟨fun z => absurd ?_ d, fun _ => rfl⟩
      rcases z with z | z | z
      · exact .inr (.inl z)
      · exact .inr (.inr z)
      · exact .inl (Int.not_le.mp fun y => z ⟨c, y⟩)
  · rw [if_neg c]
    exact ⟨fun _ => rfl, fun z => absurd (.inr (.inr fun y => c y.1)) z⟩
theorem lnone {P : Prop} {o : Option (Int × Int)} {x : Int × Int} (h : P) (e : o = none) : (P → o = none) ∧ (¬ P → o = some x) := ⟨fun _ => e, fun z => absurd h z⟩
theorem stepL_of {f n p l : Int} {r : List Int} (h : headP f = some (n, p, l)) (hn : ¬ (r.length : Int) < n) : stepL f r = (contP (r.take n.toNat) p).bind fun q => if q < l ∨ 1114111 < q ∨ (55296 ≤ q ∧ q < 57344) then none else some (q, n) := by
  unfold stepL; rw [h]; exact if_neg hn
theorem stepL_short {f n p l : Int} {r : List Int} (h : headP f = some (n, p, l)) (hn : (r.length : Int) < n) : stepL f r = none := by
  unfold stepL; rw [h]; exact if_pos hn
theorem bind_if {C : Prop} [Decidable C] {q : Int} {g : Int → Option (Int × Int)} : (if C then some q else none).bind g = if C then g q else none := by
  split <;> rfl
theorem lb3 {f : Int} {r : List Int} {x : Int × Int} (e : lhd f = x) (h : signP (foldC (r.take (x.1 - 1).toNat) x.2) ≠ (f :: r).take x.1.toNat) : LBad f r := by
  unfold LBad; rw [e]; exact .inr (.inr h)
theorem lbad_iff {f : Int} {r : List Int} {x : Int × Int} (e : lhd f = x) {q : Int} {l : List Int} (hq : foldC (r.take (x.1 - 1).toNat) x.2 = q) (hl : (f :: r).take x.1.toNat = l) : LBad f r ↔ (1114112 ≤ q ∨ (55296 ≤ q ∧ q < 57344) ∨ ¬ signP q = l) := by
  unfold LBad; rw [e, hq, hl]
theorem lret {f : Int} {r : List Int} {x : Int × Int} (e : lhd f = x) {q n : Int} (hq : foldC (r.take (x.1 - 1).toNat) x.2 = q) (hn : x.1 - 1 = n)
    (h : (LBad f r → stepL f r = none) ∧ (¬ LBad f r → stepL f r = some (q, n))) : LStep f r := by
  unfold LStep; rw [e, hq, hn]; exact h
/-- an octet that goes on -/
theorem go_on {b : Int} (h : 0 ≤ b) (h' : b < 256) : 128 + b % 64 = b ↔ 128 ≤ b ∧ b < 192 := by lia
theorem dg1 {x c : Int} : (x * 64 + c % 64) % 64 = c % 64 := by lia
theorem dg2 {x c : Int} : (x * 64 + c % 64) / 64 = x := by lia
theorem low {c : Int} : 0 ≤ c % 64 ∧ c % 64 < 64 := by lia
theorem div3 {q : Int} : q / 4096 = q / 64 / 64 := by lia
theorem div4 {q : Int} : q / 262144 = q / 64 / 64 / 64 := by lia
theorem stepL_1 {f : Int} {r : List Int} (h0 : 0 ≤ f) (h : f < 128) : LStep f r := by
  have e : lhd f = (1, f) := if_pos h
  have eh : headP f = some (0, f, 0) := if_pos h
  refine lret e (q := f) rfl rfl (lclose (C := True) (l := 0) ⟨fun _ => ⟨trivial, h0⟩, fun _ => sgn1.mpr ⟨h, rfl⟩⟩ (lbad_iff e rfl rfl) ?_)
  rw [stepL_of eh (by simp)]
  rfl
theorem stepL_2 {f : Int} {r : List Int} (h : ¬ f < 128) (h2 : f < 224) (hr : ∀ o ∈ r, 0 ≤ o ∧ o < 256) : LStep f r := by
  have e : lhd f = (2, f % 32) := by unfold lhd; rw [if_neg h, if_pos h2]
  have eh : 192 ≤ f → headP f = some (1, f % 32, 128) := fun h' => by unfold headP; rw [if_neg h, if_pos ⟨h', h2⟩]
  have en : ¬ 192 ≤ f → stepL f r = none := fun h' => by unfold stepL headP; rw [if_neg h, if_neg fun z => h' z.1, if_neg fun z => absurd h2 (Int.not_lt.mpr z.1), if_neg fun z => absurd z.1 (by lia)]; rfl
  match r with
  | [] =>
    refine lnone (lb3 e fun z => ?_) ?_
    · have := sgn1.mp z
      have : f % 32 = f := this.2
      lia
    · by_cases h3 : 192 ≤ f
      · exact stepL_short (eh h3) (by simp)
      · exact en h3
  | b :: r =>
    have hb := hr b (.head _)
    have key : signP (f % 32 * 64 + b % 64) = [f, b] ↔ 128 ≤ f % 32 * 64 + b % 64 ∧ f % 32 * 64 + b % 64 < 2048 ∧ 192 + f % 32 = f ∧ 128 + b % 64 = b := by rw [sgn2, dg1, dg2]
    by_cases h3 : 192 ≤ f
    · refine lret e (q := f % 32 * 64 + b % 64) rfl rfl (lclose (q := f % 32 * 64 + b % 64) (C := 128 ≤ b ∧ b < 192) (l := 128) ?_ (lbad_iff (q := f % 32 * 64 + b % 64) e rfl rfl) ?_)
      · show signP _ = [f, b] ↔ _
        rw [key, go_on hb.1 hb.2]
        have := low (c := b)
        exact ⟨fun z => ⟨z.2.2.2, z.1⟩, fun z => ⟨z.2, by lia, by lia, z.1⟩⟩
      · rw [stepL_of (eh h3) (by simp only [List.length_cons]; lia)]
        show (contP [b] (f % 32)).bind _ = _
        rw [contP_1, bind_if]; rfl
    · refine lnone (lb3 e fun z => ?_) (en h3)
      have := (key.mp z).2.2.1
      lia
theorem stepL_3 {f : Int} {r : List Int} (h2 : ¬ f < 224) (h3 : f < 240) (hr : ∀ o ∈ r, 0 ≤ o ∧ o < 256) : LStep f r := by
  have e : lhd f = (3, f % 16) := by unfold lhd; rw [if_neg (by lia), if_neg h2, if_pos h3]
  have eh : headP f = some (2, f % 16, 2048) := by unfold headP; rw [if_neg (by lia), if_neg fun z => h2 z.2, if_pos ⟨by lia, h3⟩]
  have ef : 224 + f % 16 = f := by lia
  match r with
  | [] => exact lnone (lb3 e fun z => by have := (sgn1.mp z).2; have : f % 16 = f := this; lia) (stepL_short eh (by simp))
  | [b] =>
    exact lnone (lb3 e fun z => by have := (sgn2.mp z).2.2.1; have : 192 + (f % 16 * 64 + b % 64) / 64 = f := this; rw [dg2] at this; lia) (stepL_short eh (by simp))
  | b :: c :: r =>
    have hb := hr b (.head _)
    have hc := hr c (.tail _ (.head _))
    refine lret e (q := (f % 16 * 64 + b % 64) * 64 + c % 64) rfl rfl (lclose (q := (f % 16 * 64 + b % 64) * 64 + c % 64) (C := (128 ≤ b ∧ b < 192) ∧ (128 ≤ c ∧ c < 192)) (l := 2048) ?_ (lbad_iff (q := (f % 16 * 64 + b % 64) * 64 + c % 64) e rfl rfl) ?_)
    · show signP _ = [f, b, c] ↔ _
      rw [sgn3, div3, dg1, dg2, dg1, dg2, go_on hb.1 hb.2, go_on hc.1 hc.2]
      have := low (c := b)
      have := low (c := c)
      exact ⟨fun z => ⟨⟨z.2.2.2.1, z.2.2.2.2⟩, z.1⟩, fun z => ⟨z.2, by lia, ef, z.1.1, z.1.2⟩⟩
    · rw [stepL_of eh (by simp only [List.length_cons]; lia)]
      show (contP [b, c] (f % 16)).bind _ = _
      rw [contP_2, bind_if]; rfl
theorem stepL_4 {f : Int} {r : List Int} (h3 : ¬ f < 240) (hf : f < 256) (hr : ∀ o ∈ r, 0 ≤ o ∧ o < 256) : LStep f r := by
  have e : lhd f = (4, f % 8) := by unfold lhd; rw [if_neg (by lia), if_neg (by lia), if_neg h3]
  have eh : f < 248 → headP f = some (3, f % 8, 65536) := fun h => by unfold headP; rw [if_neg (by lia), if_neg (by lia), if_neg fun z => h3 z.2, if_pos ⟨by lia, h⟩]
  have en : ∀ {r : List Int}, ¬ f < 248 → stepL f r = none := fun h => by unfold stepL headP; rw [if_neg (by lia), if_neg (by lia), if_neg fun z => h3 z.2, if_neg fun z => h z.2]; rfl
  have es : ∀ {r : List Int}, (r.length : Int) < 3 → stepL f r = none := fun h => by
    by_cases q : f < 248
    · exact stepL_short (eh q) h
    · exact en q
  have hx : f % 8 < 8 := by lia
  match r with
  | [] => exact lnone (lb3 e fun z => by have := (sgn1.mp z).2; have : f % 8 = f := this; lia) (es (by simp))
  | [b] =>
    exact lnone (lb3 e fun z => by have := (sgn2.mp z).2.2.1; have : 192 + (f % 8 * 64 + b % 64) / 64 = f := this; rw [dg2] at this; lia) (es (by simp))
  | [b, c] =>
    exact lnone (lb3 e fun z => by have := (sgn3.mp z).2.2.1; have : 224 + ((f % 8 * 64 + b % 64) * 64 + c % 64) / 4096 = f := this; rw [div3, dg2, dg2] at this; lia) (es (by simp))
  | b :: c :: d :: r =>
    have hb := hr b (.head _)
    have hc := hr c (.tail _ (.head _))
    have hd := hr d (.tail _ (.tail _ (.head _)))
    have key : signP (((f % 8 * 64 + b % 64) * 64 + c % 64) * 64 + d % 64) = [f, b, c, d] ↔ 65536 ≤ ((f % 8 * 64 + b % 64) * 64 + c % 64) * 64 + d % 64 ∧ 240 + f % 8 = f ∧ 128 + b % 64 = b ∧ 128 + c % 64 = c ∧ 128 + d % 64 = d := by
      rw [sgn4, div4, div3, dg1, dg2, dg1, dg2, dg1, dg2]
    by_cases q : f < 248
    · refine lret e (q := ((f % 8 * 64 + b % 64) * 64 + c % 64) * 64 + d % 64) rfl rfl (lclose (q := ((f % 8 * 64 + b % 64) * 64 + c % 64) * 64 + d % 64) (C := (128 ≤ b ∧ b < 192) ∧ (128 ≤ c ∧ c < 192) ∧ (128 ≤ d ∧ d < 192)) (l := 65536) ?_ (lbad_iff (q := ((f % 8 * 64 + b % 64) * 64 + c % 64) * 64 + d % 64) e rfl rfl) ?_)
      · show signP _ = [f, b, c, d] ↔ _
        rw [key, go_on hb.1 hb.2, go_on hc.1 hc.2, go_on hd.1 hd.2]
        exact ⟨fun z => ⟨z.2.2, z.1⟩, fun z => ⟨z.2, by lia, z.1⟩⟩
      · rw [stepL_of (eh q) (by simp only [List.length_cons]; lia)]
        show (contP [b, c, d] (f % 8)).bind _ = _
        rw [contP_3, bind_if]; rfl
    · refine lnone (lb3 e fun z => ?_) (en q)
      have := (key.mp z).2.1
      lia
theorem stepL_all {f : Int} {r : List Int} (h0 : 0 ≤ f) (hf : f < 256) (hr : ∀ o ∈ r, 0 ≤ o ∧ o < 256) : LStep f r := by
  by_cases h1 : f < 128
  · exact stepL_1 h0 h1
  · by_cases h2 : f < 224
    · exact stepL_2 h1 h2 hr
    · by_cases h3 : f < 240
      · exact stepL_3 h2 h3 hr
      · exact stepL_4 h3 hf hr
theorem stepP_L {ks : List Int} {i f : Int} {r : List Int} (h0 : 0 ≤ i) (hl : ks.drop i.toNat = f :: r) : stepP ks i = (stepL f r).map fun x => (x.1, i + 1 + x.2) := by
  have h1 : ks.getD i.toNat 0 = f := by
    have := List.getElem?_drop (xs := ks) (i := i.toNat) (j := 0)
    rw [hl] at this
    rw [List.getD_eq_getElem?_getD]
    simp at this
    rw [← this]; rfl
  have h2 : ks.drop (i + 1).toNat = r := by
    rw [show (i + 1).toNat = i.toNat + 1 by lia, ← List.drop_drop, hl]; rfl
  have h3 : (ks.length : Int) = i + 1 + r.length := by
    have := congrArg List.length hl
    rw [List.length_drop, List.length_cons] at this
    lia
  unfold stepP stepL
  rw [h1, h2]
  cases headP f with
  | none => rfl
  | some h =>
    show (if (ks.length : Int) ≤ i + h.1 then none else _) = Option.map _ (if (r.length : Int) < h.1 then none else _)
    by_cases q : (r.length : Int) < h.1
    · rw [if_pos q, if_pos (by lia)]; rfl
    · rw [if_neg q, if_neg (by lia)]
      cases contP (r.take h.1.toNat) h.2.1 with
      | none => rfl
      | some p =>
        show (if _ then none else _) = Option.map _ (if _ then none else _)
        split <;> rfl
-- Md
theorem updF_or {g h : Heap} {L d : Addr} {o o' : Obj} {news : List (Addr × Obj)} {gg : Obj → List (Addr × Obj)} (U : UpdF d o news gg) : ∀ p ∈ gg o', p ∈ [(d, o')] ∨ (p ∈ news ∧ p.1 ∉ [(d, o)].map (·.1)) := by
  obtain ⟨pre, post, rfl, hg, h1, h2⟩ := U.split
  intro p hp
  rw [hg] at hp
  rcases List.mem_append.mp hp with hp | hp
  · exact .inr ⟨List.mem_append_left _ hp, fun z => h1 p hp (List.mem_singleton.mp z)⟩
  · rcases List.mem_cons.mp hp with rfl | hp
    · exact .inl (.head _)
    · exact .inr ⟨List.mem_append_right _ (.tail _ hp), fun z => h2 p hp (List.mem_singleton.mp z)⟩
section
variable {w : World} {mean : ExcName → Option Value} {mg mb : PySem.Str → Option Value} {A : Around} {base g hp : Heap} {outer : List Env} {gs : Array GenState} {dr : Drawn} {tk : Nat} {os : OsState} {Q E : Value → Shared → Prop}
  {d : Nat} {o : Obj} {bs : Array UInt8} {ks : List Int} {i e : Int} {tb ti te : Tok}
  {L f' : Addr} {m : PySem.Str → Option Value} {news : List (Addr × Obj)} {gg : Obj → List (Addr × Obj)} {qual : PySem.Str} {scope : Scope} {cd : Value}
theorem w_lu32 (a : Amb w mean mg mb A base outer g) (F : Fr g L hp m) (N : News g L hp news) (hm : (d, o) ∈ news) (U : UpdF d o news gg) (hd : StD w bs i e tb ti te o) (hb : KBw.bInts bs = ks) (h0 : 0 ≤ i) (hie : i ≤ e) (he : e ≤ ks.length) (hz : ks.length ≤ 1000) (hr : Rm A 9)
    (hret : ∀ h' tk' n t o' j tj, ((0 ≤ n ∧ u32P ks e i = some (n, j)) ∨ (n = -1 ∧ u32P ks e i = none)) → 0 ≤ j → j ≤ e → StD w bs j e tb tj te o' → Fr g L h' m → News g L h' (gg o') → Q (.int n t) ⟨h', gs, dr, tk', os⟩)
    (hk : scope.kind = .function) : wpAny (MW w) (A.deeper (envOf qual scope L f' cd)) (call (.ref 324) [.ref d]) Q E ⟨hp, gs, dr, tk, os⟩ := by
  have hin : ∀ p ∈ [(d, o)], p ∈ news := fun p hp => by rw [List.mem_singleton.mp hp]; exact hm
  refine c_lu32 hb h0 hie he hz (siteA (s := ⟨hp, gs, dr, tk, os⟩) a F N hin hk) hd (siteO (s := ⟨hp, gs, dr, tk, os⟩) N hin) hr.deeper fun h' tk' n t o' j tj hn h1 h2 hd' ov => ?_
  obtain ⟨F', N'⟩ := site_back (s := ⟨hp, gs, dr, tk, os⟩) F N hin ov (updF_or (h := h') (g := g) (L := L) U)
  exact hret h' tk' n t o' j tj hn h1 h2 hd' F' N'
theorem w_lsign {p : Int} {tp : Tok} (a : Amb w mean mg mb A base outer g) (F : Fr g L hp m) (N : News g L hp news) (h0 : 0 ≤ p) (h1 : p < 1114112) (hr : Rm A 9)
    (hret : ∀ h' tk' b t, KBw.bInts b = signP p → Fr g L h' m → News g L h' news → Q (.bytes b t) ⟨h', gs, dr, tk', os⟩)
    (hk : scope.kind = .function) : wpAny (MW w) (A.deeper (envOf qual scope L f' cd)) (call (.ref 270) [.int p tp]) Q E ⟨hp, gs, dr, tk, os⟩ := by
  have hin : ∀ p ∈ ([] : List (Addr × Obj)), p ∈ news := fun p hp => nomatch hp
  refine c_lsign h0 h1 (siteA (s := ⟨hp, gs, dr, tk, os⟩) a F N hin hk) (siteO (s := ⟨hp, gs, dr, tk, os⟩) N hin) hr.deeper fun h' tk' b t hb ov => ?_
  obtain ⟨F', N'⟩ := site_back (s := ⟨hp, gs, dr, tk, os⟩) F N hin ov (news' := news) (fun q hq => .inr ⟨hq, by simp⟩)
  exact hret h' tk' b t hb F' N'
end
section
variable {w : World} {mean : ExcName → Option Value} {mg mb : PySem.Str → Option Value} {A : Around} {base g : Heap} {outer : List Env} {s : Shared} {Q E : Value → Shared → Prop}
  {d : Nat} {o : Obj} {bs : Array UInt8} {ks : List Int} {i e : Int} {tb ti te : Tok}
theorem lhd_cases (f : Int) : lhd f = (1, f) ∧ f < 128 ∨ lhd f = (2, f % 32) ∨ lhd f = (3, f % 16) ∨ lhd f = (4, f % 8) := by
  unfold lhd
  split
  · exact .inl ⟨rfl, by assumption⟩
  · split
    · exact .inr (.inl rfl)
    · split
      · exact .inr (.inr (.inl rfl))
      · exact .inr (.inr (.inr rfl))
theorem lsz1 {f : Int} (h : f < 128) : lhd f = (1, f) := if_pos h
theorem lsz2 {f : Int} (h : ¬ f < 128) (h2 : f < 224) : lhd f = (2, f % 32) := by unfold lhd; rw [if_neg h, if_pos h2]
theorem lsz3 {f : Int} (h : ¬ f < 128) (h2 : ¬ f < 224) (h3 : f < 240) : lhd f = (3, f % 16) := by unfold lhd; rw [if_neg h, if_neg h2, if_pos h3]
theorem lsz4 {f : Int} (h : ¬ f < 128) (h2 : ¬ f < 224) (h3 : ¬ f < 240) : lhd f = (4, f % 8) := by unfold lhd; rw [if_neg h, if_neg h2, if_neg h3]
noncomputable abbrev lnEnv (L : Addr) : Env := envOf (PySem.Str.ofString "_law_name") (fnScope (stAt 31)) L 331 (.ref 330)
noncomputable abbrev lnLoop : Stmt := (fnBody (stAt 31)).getD 4 (.Pass default)
inductive JN (ks : List Int) (bs : Array UInt8) (nm : Int) (tb tm : Tok) (d : Nat) (o : Obj) (n : Nat) (m : PySem.Str → Option Value) (news : List (Addr × Obj)) : Prop
  | mk (i : Int) (cs : List Int) (ti tt : Tok) (h1 : 0 ≤ i) (h2 : n = (ks.length - i).toNat) (h3 : cs.length ≤ i) (h4 : (∀ k, n ≤ k → (utf8P ks k i).map (cs ++ ·) = utf8P ks ks.length 0)) (h5 : AllOn m [(PySem.Str.ofString "at", .int i ti), (PySem.Str.ofString "text", .str (strOf cs) tt), (PySem.Str.ofString "octets", .bytes bs tb), (PySem.Str.ofString "many", .int nm tm), (PySem.Str.ofString "state", .ref d)]) (h6 : news = [(d, o)]) : JN ks bs nm tb tm d o n m news
inductive JF (nm : Int) (bs : Array UInt8) (tb tm : Tok) (d : Nat) (o : Obj) (i : Int) (cs : List Int) (ti tt : Tok) (z : Int) (tz : Tok) (X : Int) (r : List Int) (m : PySem.Str → Option Value) (news : List (Addr × Obj)) : Prop
  | mk (p : Int) (tp : Tok) (h1 : foldC r p = X) (h2 : 0 ≤ p) (h3 : AllOn m [(PySem.Str.ofString "point", .int p tp), (PySem.Str.ofString "size", .int z tz), (PySem.Str.ofString "at", .int i ti), (PySem.Str.ofString "text", .str (strOf cs) tt), (PySem.Str.ofString "octets", .bytes bs tb), (PySem.Str.ofString "many", .int nm tm), (PySem.Str.ofString "state", .ref d)]) (h4 : news = [(d, o)]) : JF nm bs tb tm d o i cs ti tt z tz X r m news
theorem slice_clip {ks : List Int} {a b : Int} (h0 : 0 ≤ a) (hab : a ≤ b) : List.take (clipAt ks.length b - clipAt ks.length a) (List.drop (clipAt ks.length a) ks) = (ks.drop a.toNat).take (b.toNat - a.toNat) := by
  have e : ∀ i : Int, 0 ≤ i → clipAt ks.length i = min i.toNat ks.length := fun i hi => by
    unfold clipAt; rw [if_neg (by lia)]; lia
  rw [e a h0, e b (by lia)]
  by_cases q : a.toNat ≤ ks.length
  · rw [Nat.min_eq_left q, List.take_eq_take_iff, List.length_drop]
    lia
  · rw [List.drop_eq_nil_of_le (by lia), List.drop_eq_nil_of_le (by lia), List.take_nil, List.take_nil]
theorem foldC_nonneg : ∀ {r : List Int} {p : Int}, 0 ≤ p → 0 ≤ foldC r p
  | [], _, h => h
  | _ :: r, _, h => foldC_nonneg (r := r) (by lia)
theorem lhd_nonneg {f : Int} (h : 0 ≤ f) : 0 ≤ (lhd f).2 ∧ 1 ≤ (lhd f).1 ∧ (lhd f).1 ≤ 4 := by
  rcases lhd_cases f with ⟨e, _⟩ | e | e | e <;> rw [e]
  · exact ⟨h, (by decide : (1 : Int) ≤ 1), (by decide : (1 : Int) ≤ 4)⟩
  · exact ⟨Int.emod_nonneg _ (by decide), (by decide : (1 : Int) ≤ 2), (by decide : (2 : Int) ≤ 4)⟩
  · exact ⟨Int.emod_nonneg _ (by decide), (by decide : (1 : Int) ≤ 3), (by decide : (3 : Int) ≤ 4)⟩
  · exact ⟨Int.emod_nonneg _ (by decide), (by decide : (1 : Int) ≤ 4), (by decide : (4 : Int) ≤ 4)⟩
theorem lstep_at {ks : List Int} {bs : Array UInt8} (hb : KBw.bInts bs = ks) {i z p q : Int} (h0 : 0 ≤ i) (hi : i < ks.length) (hz : z = (lhd (ks.getD i.toNat 0)).1) (hp : p = (lhd (ks.getD i.toNat 0)).2) (hq : foldC ((ks.drop (i + 1).toNat).take ((i + z).toNat - (i + 1).toNat)) p = q) :
    (1114112 ≤ q → stepP ks i = none) ∧ (55296 ≤ q → q < 57344 → stepP ks i = none) ∧ (signP q ≠ (ks.drop i.toNat).take ((i + z).toNat - i.toNat) → stepP ks i = none) ∧
      (¬ 1114112 ≤ q → ¬ (55296 ≤ q ∧ q < 57344) → signP q = (ks.drop i.toNat).take ((i + z).toNat - i.toNat) → stepP ks i = some (q, i + z)) ∧ 1 ≤ z ∧ z ≤ 4 ∧ 0 ≤ p := by
  have hby := byte_in hb i.toNat
  obtain ⟨n1, n2, n3⟩ := lhd_nonneg hby.1
  have hl : ks.drop i.toNat = ks.getD i.toNat 0 :: ks.drop (i + 1).toNat := by
    rw [show (i + 1).toNat = i.toNat + 1 by lia, List.drop_eq_getElem_cons (by lia), List.getD_eq_getElem?_getD, List.getElem?_eq_getElem (by lia)]; rfl
  obtain ⟨s1, s2⟩ := stepL_all (f := ks.getD i.toNat 0) (r := ks.drop (i + 1).toNat) hby.1 hby.2 fun o ho => by
    have := List.mem_of_mem_drop ho
    obtain ⟨j, hj, e⟩ := List.mem_iff_getElem.mp this
    have := byte_in hb j
    rw [List.getD_eq_getElem?_getD, List.getElem?_eq_getElem hj, e] at this
    exact this
  rw [← hz] at n2 n3
  rw [show (i + z).toNat - (i + 1).toNat = (z - 1).toNat by lia] at hq
  rw [show (i + z).toNat - i.toNat = z.toNat by lia, hl]
  have hL : LBad (ks.getD i.toNat 0) (ks.drop (i + 1).toNat) ↔ (1114112 ≤ q ∨ (55296 ≤ q ∧ q < 57344) ∨ ¬ signP q = (ks.getD i.toNat 0 :: ks.drop (i + 1).toNat).take z.toNat) := by
    unfold LBad; rw [← hz, ← hp, hq]
  have hs := stepP_L h0 hl
  have bad : LBad (ks.getD i.toNat 0) (ks.drop (i + 1).toNat) → stepP ks i = none := fun h => by rw [hs, s1 h]; rfl
  refine ⟨fun h => bad (hL.mpr (.inl h)), fun h h' => bad (hL.mpr (.inr (.inl ⟨h, h'⟩))), fun h => bad (hL.mpr (.inr (.inr h))), fun h1 h2 h3 => ?_, n2, n3, hp ▸ n1⟩
  rw [hs, s2 fun h => by rcases hL.mp h with h | h | h; exact h1 h; exact h2 h; exact h h3, ← hz, ← hp, hq]
  show some (q, i + 1 + (z - 1)) = _
  rw [show i + 1 + (z - 1) = i + z by lia]
theorem bInts_inj {b c : Array UInt8} : (b.toList != c.toList) = decide (KBw.bInts b ≠ KBw.bInts c) := by
  have : b.toList = c.toList ↔ KBw.bInts b = KBw.bInts c := ⟨fun h => by rw [show b = c from Array.toList_inj.mp h], fun h => by
    have hinj : ∀ x y : UInt8, (x.toNat : Int) = (y.toNat : Int) → x = y := fun x y h => UInt8.toNat_inj.mp (Int.ofNat.inj h)
    exact (List.map_inj_right hinj).mp h⟩
  by_cases h : b.toList = c.toList
  · rw [decide_eq_false (p := KBw.bInts b ≠ KBw.bInts c) (fun z => z (this.mp h))]; simp [h]
  · rw [decide_eq_true (p := KBw.bInts b ≠ KBw.bInts c) (fun z => h (this.mpr z))]; simpa using h
theorem ne_bytesK {A : Around} {s : Shared} {b c : Array UInt8} {t u : Tok} {k1 k2 : List Int} {Q : Value → Shared → Prop} (hb : KBw.bInts b = k1) (hc : KBw.bInts c = k2) (h : Q (.bool (decide (k1 ≠ k2))) s) : wpAny (MW w) A (compareOp .NotEq (.bytes b t) (.bytes c u)) Q E s :=
  ne_bytes (by rw [bInts_inj, hb, hc]; exact h)
theorem strOf_snoc (cs : List Int) (p : Int) : strOf cs ++ ⟨#[p.toNat]⟩ = strOf (cs ++ [p]) := by
  show (⟨(cs.map Int.toNat).toArray ++ #[p.toNat]⟩ : PySem.Str) = ⟨((cs ++ [p]).map Int.toNat).toArray⟩
  simp
theorem add_strOf {A : Around} {hp : Heap} {gs : Array GenState} {dr : Drawn} {tk : Nat} {os : OsState} {cs : List Int} {p : Int} {t u : Tok} {Q : Value → Shared → Prop} (hl : cs.length ≤ 100000) (h : ∀ t' tk, Q (.str (strOf (cs ++ [p])) t') ⟨hp, gs, dr, tk, os⟩) :
    wpAny (MW w) A (binaryOp .Add (.str (strOf cs) t) (.str ⟨#[p.toNat]⟩ u)) Q E ⟨hp, gs, dr, tk, os⟩ := by
  refine add_str (fun t' tk => ?_) (hsz := ?_)
  · rw [strOf_snoc]; exact h t' tk
  · have h1 : (strOf cs).length = cs.length := by show ((cs.map Int.toNat).toArray).size = _; simp
    have h2 : (⟨#[p.toNat]⟩ : PySem.Str).length = 1 := rfl
    rw [h1, h2, sizeLine_eq]; lia
noncomputable def BoolFr (c : Prop) [Decidable c] (g : Heap) (L : Addr) (m : PySem.Str → Option Value) (news : List (Addr × Obj)) (gs : Array GenState) (dr : Drawn) (os : OsState) (b : Bool) (s' : Shared) : Prop := ∃ h' tk, b = decide c ∧ s' = ⟨h', gs, dr, tk, os⟩ ∧ Fr g L h' m ∧ News g L h' news
theorem cut_bool {M : Model} {A : Around} {t : Sem Bool} {E : Value → Shared → Prop} {Q : Bool → Shared → Prop} {c : Prop} [Decidable c] {L : Addr} {m : PySem.Str → Option Value} {news : List (Addr × Obj)} {hp : Heap} {gs : Array GenState} {dr : Drawn} {tk : Nat} {os : OsState} (_F : Fr g L hp m) (_N : News g L hp news)
    (h : wpAny M A t (BoolFr c g L m news gs dr os) E ⟨hp, gs, dr, tk, os⟩) (k : ∀ h' tk, Fr g L h' m → News g L h' news → Q (decide c) ⟨h', gs, dr, tk, os⟩) : wpAny M A t Q E ⟨hp, gs, dr, tk, os⟩ :=
  wpAny_mono h (fun _ _ ⟨_, _, e1, e2, F, N⟩ => by subst e1 e2; exact k _ _ F N) fun _ _ e => e
noncomputable def IntAt (z : Int) (hp : Heap) (gs : Array GenState) (dr : Drawn) (os : OsState) (v : Value) (s' : Shared) : Prop := ∃ t k, v = .int z t ∧ s' = ⟨hp, gs, dr, k, os⟩
theorem cut_int {M : Model} {A : Around} {t : Sem Value} {E : Value → Shared → Prop} {Q : Value → Shared → Prop} {z : Int} {hp : Heap} {gs : Array GenState} {dr : Drawn} {tk : Nat} {os : OsState} (h : wpAny M A t (IntAt z hp gs dr os) E ⟨hp, gs, dr, tk, os⟩) (k : ∀ t k, Q (.int z t) ⟨hp, gs, dr, k, os⟩) : wpAny M A t Q E ⟨hp, gs, dr, tk, os⟩ :=
  wpAny_mono h (fun _ _ ⟨t, tk, e1, e2⟩ => by subst e1 e2; exact k t tk) fun _ _ e => e
theorem lname_loop {L : Addr} {m : PySem.Str → Option Value} {hp : Heap} {gs : Array GenState} {dr : Drawn} {tk : Nat} {os : OsState} {Q : Flow → Shared → Prop} {t0 tt tm : Tok} {nm : Int} (hb : KBw.bInts bs = ks) (hnm : nm = ks.length) (hz : ks.length ≤ 1000)
    (a : Amb w mean mg mb A base outer g) (hr : Rm A 12) (F : Fr g L hp m) (N : News g L hp [(d, o)])
    (hm : AllOn m [(PySem.Str.ofString "at", .int 0 t0), (PySem.Str.ofString "text", .str (PySem.Str.ofString "") tt), (PySem.Str.ofString "octets", .bytes bs tb), (PySem.Str.ofString "many", .int nm tm), (PySem.Str.ofString "state", .ref d)])
    (hend : ∀ cs, utf8P ks ks.length 0 = some cs → ∀ h' tk' m' t', Fr g L h' m' → AllOn m' [(PySem.Str.ofString "text", .str (strOf cs) t')] → News g L h' [(d, o)] → Q .next ⟨h', gs, dr, tk', os⟩)
    (hnone : utf8P ks ks.length 0 = none → ∀ h' tk' m', Fr g L h' m' → News g L h' [(d, o)] → Q (.ret .none) ⟨h', gs, dr, tk', os⟩) :
    wpAny (MW w) (A.deeper (lnEnv L)) (exec lnLoop (lnEnv L)) Q (fun e s' => wpAny (MW w) (A.deeper (lnEnv L)) (leaving (lnEnv L) e) (fun _ s'' => E e s'') (fun e' s'' => E e' s'') s') ⟨hp, gs, dr, tk, os⟩ := by
  obtain ⟨hnd, dp, fr, gd, un⟩ := A
  obtain rfl : hnd = none := a.hh
  obtain rfl : fr = some outer := a.B.stack
  have X := a.X
  have T := a.T
  have B := a.B
  subst hnm
  unfold lnEnv
  conv in lnLoop => whnf
  conv in (occs := *) fnScope _ => all_goals whnf
  refine While_inv2 (JN ks bs ks.length tb tm d o) (n₀ := ks.length) F N ⟨0, [], _, _, by lia, by lia, by decide, fun k hk => ?_, hm, rfl⟩ ?_
  · rw [utf8P_enough hk (by lia)]; cases utf8P ks ks.length 0 <;> rfl
  intro n m₁ news₁ h₁ tk₁ F₁ N₁ J₁
  obtain ⟨i, cs, ti₁, tt₁, hi0, hn, hcs, hu, hm₁, rfl⟩ := J₁
  replace F₁ := Fr_on F₁ hm₁
  dsimp only [ifsE] at F₁
  dsimp only
  have hby := byte_in hb i.toNat
  iterate 7 walk1
  rotate_left
  rotate_left
  rotate_left
  · have hi : ¬ i < ks.length := by lia
    obtain rfl : n = 0 := by lia
    have := hu 0 (Nat.le_refl _)
    rw [utf8P_end hi, Option.map_some, List.append_nil] at this
    exact hend _ this.symm _ _ _ _ F₁ ⟨rfl, trivial⟩ N₁
  walk1
  iterate 6 walk1
  rotate_left
  walk1
  obtain ⟨z, hz'⟩ : ∃ z, z = (lhd (ks.getD i.toNat 0)).1 := ⟨_, rfl⟩
  obtain ⟨p, hp'⟩ : ∃ p, p = (lhd (ks.getD i.toNat 0)).2 := ⟨_, rfl⟩
  refine cut_int (z := z) ?cut fun tz k => ?rest
  case cut =>
    k_steps
    · exact ⟨_, _, by rw [hz', lsz1 (by assumption)], rfl⟩
    · exact ⟨_, _, by rw [hz', lsz2 (by assumption) (by assumption)], rfl⟩
    · exact ⟨_, _, by rw [hz', lsz3 (by assumption) (by assumption) (by assumption)], rfl⟩
    · exact ⟨_, _, by rw [hz', lsz4 (by assumption) (by assumption) (by assumption)], rfl⟩
  iterate 2 walk1
  rotate_left
  walk1
  refine cut_int (z := p) ?cut2 fun tp k2 => ?rest2
  case cut2 =>
    rcases lhd_cases (ks.getD i.toNat 0) with ⟨hc, _⟩ | hc | hc | hc
    · obtain rfl : z = 1 := by rw [hz', hc]
      k_steps
      exact ⟨_, _, by rw [hp', hc], rfl⟩
    all_goals
      rw [hc] at hz' hp'
      dsimp only at hz' hp'
      subst hz' hp'
      k_steps
      exact ⟨_, _, congrArg (Value.int · _) (fm (by decide)), rfl⟩
  iterate 2 walk1
  rotate_left
  rename Fr _ _ _ _ => F2
  refine' For_invVF F2 ?k1 ?k2 ?_
  (case k1 => exact rfl)
  (case k2 => exact rfl)
  iterate 15 walk1
  rotate_left
  rename KBw.bInts (KBy.picked _ _ _) = _ => kbcK
  obtain ⟨q, hq⟩ : ∃ q, foldC ((ks.drop (i + 1).toNat).take ((i + z).toNat - (i + 1).toNat)) p = q := ⟨_, rfl⟩
  obtain ⟨st1, st2, st3, st4, hz1, hz4, hp0⟩ := lstep_at hb hi0 (by assumption) hz' hp' hq
  rw [slice_clip (by lia) (by lia)] at kbcK
  rw [← slice_clip (a := i) (b := i + z) (by lia) (by lia)] at st3 st4
  rename Fr _ _ _ _ => F3
  rename News _ _ _ _ => N3
  refine iter_bytesUnr rfl F3 N3 kbcK fun I lI => ?_
  (repeat (rename Fr _ _ _ _ => zz; clear zz)); (repeat (rename News _ _ _ _ => zz; clear zz))
  k_lt lI
  refine bytesRest_ind (JF ks.length bs tb tm d o i cs ti₁ tt₁ z tz q) ?h0 ?h1 _ _ _ ⟨_, _, hq, hp0, ⟨rfl, rfl, rfl, rfl, rfl, rfl, rfl, trivial⟩, rfl⟩
  case h0 =>
    intro m₂ news₂ J h₂ tk₂ F₂ N₂
    obtain ⟨p2, tp2, hp2, hp3, hm2, rfl⟩ := J
    obtain rfl : p2 = q := hp2
    replace F₂ : Fr g L h₂ _ := Fr_on F₂ hm2
    dsimp only [ifsE] at F₂
    dsimp only
    iterate 2 walk1
    refine cut_bool (c := 1114112 ≤ p2 ∨ (55296 ≤ p2 ∧ p2 < 57344) ∨ signP p2 ≠ List.take (clipAt ks.length (i + z) - clipAt ks.length i) (List.drop (clipAt ks.length i) ks)) F₂ N₂ ?cut3 fun h' tk' F' N' => ?rest3
    case cut3 =>
      repeat' (first | (k_unfold; (try dsimp only)) | (k_end; wrow_close) | ((fail_if_success fail_if_success with_reducible show wpAny _ _ (compareOp CmpOp.NotEq (Value.bytes _ _) (Value.bytes _ _)) _ _ _); (k_dflt (refine ne_bytesK (by assumption) (by assumption) ?_))) | ((fail_if_success fail_if_success with_reducible show wpAny _ _ (call (Value.ref _) _ _) _ _ _); ((k_dflt (first | (refine w_lu32 (by assumption) (by assumption) (by assumption) (by k_mem) (by k_updF) (by assumption) (by assumption) (by first | assumption | lia) (by first | assumption | lia) (by first | assumption | lia) (by assumption) (by exact Rm.le (by assumption) (by decide)) ?_ rfl            ; intro h' tk' n' t' o' j' tj' hn' hj0' hj1' hd' F' N'; (try dsimp only at N')) | (refine w_lsign (by assumption) (by assumption) (by assumption) (by first | assumption | lia) (by first | assumption | lia) (by exact Rm.le (by assumption) (by decide)) ?_ rfl      ; intro h' tk' b' t' hb' F' N'))))) | walk1 | (dsimp only; (first | ((fail_if_success fail_if_success with_reducible show wpAny _ _ (compareOp CmpOp.NotEq (Value.bytes _ _) (Value.bytes _ _)) _ _ _); (k_dflt (refine ne_bytesK (by assumption) (by assumption) ?_))) | ((fail_if_success fail_if_success with_reducible show wpAny _ _ (call (Value.ref _) _ _) _ _ _); ((k_dflt (first | (refine w_lu32 (by assumption) (by assumption) (by assumption) (by k_mem) (by k_updF) (by assumption) (by assumption) (by first | assumption | lia) (by first | assumption | lia) (by first | assumption | lia) (by assumption) (by exact Rm.le (by assumption) (by decide)) ?_ rfl            ; intro h' tk' n' t' o' j' tj' hn' hj0' hj1' hd' F' N'; (try dsimp only at N')) | (refine w_lsign (by assumption) (by assumption) (by assumption) (by first | assumption | lia) (by first | assumption | lia) (by exact Rm.le (by assumption) (by decide)) ?_ rfl      ; intro h' tk' b' t' hb' F' N'))))) | walk1)) | (leave1; (try dsimp only)) | fail "no step")
      · exact ⟨_, _, (decide_eq_true (.inl (by assumption))).symm, rfl, by assumption, by assumption⟩
      · exact ⟨_, _, (decide_eq_true (.inr (.inl ⟨by assumption, by assumption⟩))).symm, rfl, by assumption, by assumption⟩
      · exact ⟨_, _, (decide_eq_true (.inr (.inr (by assumption)))).symm, rfl, by assumption, by assumption⟩
      · exact ⟨_, _, (decide_eq_false (fun h => by rcases h with h | h | h; exact absurd h (by assumption); exact absurd h.2 (by assumption); exact absurd h (by assumption))).symm, rfl, by assumption, by assumption⟩
      · exact ⟨_, _, (decide_eq_true (.inr (.inr (by assumption)))).symm, rfl, by assumption, by assumption⟩
      · exact ⟨_, _, (decide_eq_false (fun h => by rcases h with h | h | h; exact absurd h (by assumption); exact absurd h.1 (by assumption); exact absurd h (by assumption))).symm, rfl, by assumption, by assumption⟩
    clear F₂ N₂
    repeat' (first | (k_unfold; (try dsimp only)) | (k_end; wrow_close) | ((fail_if_success fail_if_success with_reducible show wpAny _ _ (binaryOp Operator.Add (Value.str _ _) (Value.str _ _)) _ _ _); (k_dflt (refine add_strOf (by first | assumption | lia) fun t' k' => ?_))) | walk1 | (dsimp only; (first | ((fail_if_success fail_if_success with_reducible show wpAny _ _ (binaryOp Operator.Add (Value.str _ _) (Value.str _ _)) _ _ _); (k_dflt (refine add_strOf (by first | assumption | lia) fun t' k' => ?_))) | walk1)) | (leave1; (try dsimp only)) | fail "no step")
    · rename _ ∨ _ ∨ _ => hbad
      have hst : stepP ks i = none := by
        rcases hbad with h | h | h
        · exact st1 h
        · exact st2 h.1 h.2
        · exact st3 h
      exact hnone (by rw [← hu n (Nat.le_refl _), utf8P_none hst (by assumption)]; rfl) _ _ _ (by assumption) (by assumption)
    · rename ¬ (_ ∨ _ ∨ _) => hgood
      have hst : stepP ks i = some (p2, i + z) := st4 (fun h => hgood (.inl h)) (fun h => hgood (.inr (.inl h))) (Decidable.not_not.mp fun h => hgood (.inr (.inr h)))
      rename Fr _ _ _ _ => F4
      rename News _ _ _ _ => N4
      refine wnext (n' := ((ks.length : Int) - (i + z)).toNat) F4 N4 ?_ ⟨_, cs ++ [p2], _, _, ?_, rfl, ?_, fun k hk => ?_, ⟨rfl, rfl, rfl, rfl, rfl, trivial⟩, rfl⟩
      · lia
      · lia
      · rw [List.length_append]; simp; lia
      · rw [← hu n (Nat.le_refl _), utf8P_next hst (by assumption) hn hk]
        cases utf8P ks k _ <;> simp
  case h1 =>
    intro c r m₂ news₂ J hc0 hc1 u it h₂ tk₂ F₂ N₂
    obtain ⟨p2, tp2, hp2, hp3, hm2, rfl⟩ := J
    replace F₂ : Fr g L h₂ _ := Fr_on F₂ (l := [(PySem.Str.ofString "octet", .int c u), (PySem.Str.ofString "point", .int p2 tp2), (PySem.Str.ofString "size", .int z tz), (PySem.Str.ofString "at", .int i ti₁), (PySem.Str.ofString "text", .str (strOf cs) tt₁), (PySem.Str.ofString "octets", .bytes bs tb), (PySem.Str.ofString "many", .int ks.length tm), (PySem.Str.ofString "state", .ref d)]) ⟨rfl, hm2⟩
    dsimp only [ifsE] at F₂
    dsimp only
    k_steps
    rename Fr _ _ _ _ => F4
    rename News _ _ _ _ => N4
    refine UnrEnd.intro F4 N4 [(d, o)] (fun q hq => hq) (fun q hq e => ?_) ⟨_, _, ?_, ?_, ⟨rfl, rfl, rfl, rfl, rfl, rfl, rfl, trivial⟩, rfl⟩
    · rw [List.mem_singleton.mp hq] at e
      exact absurd e (Nat.ne_of_lt lI)
    · rw [fm (by decide)]; exact hp2
    · rw [fm (by decide)]; lia
theorem ln_len {ks : List Int} {j n : Int} (h : 0 ≤ j) (hn : 0 ≤ n) : (ks.drop j.toNat).take ((j + n).toNat - j.toNat) = (ks.drop j.toNat).take n.toNat := by
  rw [show (j + n).toNat - j.toNat = n.toNat by lia]
theorem ln_length {ks : List Int} {e j n : Int} (h : ¬ e - j < n) (hn : 0 ≤ n) (he : 0 ≤ j ∧ e ≤ ks.length) : ((ks.drop j.toNat).take n.toNat).length = n.toNat := by
  rw [List.length_take, List.length_drop]; lia
theorem c_lname (hb : KBw.bInts bs = ks) (h0 : 0 ≤ i) (hie : i ≤ e) (he : e ≤ ks.length) (hz : ks.length ≤ 1000) (a : Amb w mean mg mb A base outer g) (hd : StD w bs i e tb ti te o) (ov : Over g s [(d, o)]) (hr : Rm A 20)
    (hret : ∀ h' tk' v o' j tj, ((∃ cs t, nameP ks e i = some (cs, j) ∧ v = .str (strOf cs) t) ∨ (nameP ks e i = none ∧ v = .none)) → 0 ≤ j → j ≤ e → StD w bs j e tb tj te o' → Over g { s with heap := h', toks := tk' } [(d, o')] → Q v { s with heap := h', toks := tk' }) :
    wpAny (MW w) A (call (.ref 331) [.ref d]) Q E s := by
  obtain ⟨hnd, dp, fr, gd, un⟩ := A
  obtain rfl : hnd = none := a.hh
  obtain rfl : fr = some outer := a.B.stack
  have X := a.X
  have T := a.T
  have B := a.B
  refine wpAny_call ?_
  refine' enter (binds := [(PySem.Str.ofString "state", .ref d)]) a ov ?k6 ?k7 ?k8 ?k9 ?kB ?_ ?c2 ?c3 ?c4 ?c5
  (case k6 => k_is)
  (case k7 => k_is)
  (case k8 => exact hr.depth)
  (case k9 => first | exact BindsTo.of_eq rfl | exact binds_K (a.X.keeps ov.st) rfl (by k_is) rfl rfl rfl)
  (case kB => exact locs rfl)
  (case c2 => exact rfl)
  (case c3 => exact rfl)
  (case c4 => exact rfl)
  (case c5 => decide)
  intro L F0 tk F N
  dsimp only [ifs, List.reverse, List.reverseAux] at F
  conv in (occs := *) fnBody _ => all_goals whnf
  conv in (occs := *) fnScope _ => all_goals whnf
  try dsimp only
  k_fold
  iterate 26 (first | ((fail_if_success fail_if_success with_reducible show wpAny _ _ (call (Value.ref _) _ _) _ _ _); ((k_dflt (first | (refine w_lu32 (by assumption) (by assumption) (by assumption) (by k_mem) (by k_updF) (by assumption) (by assumption) (by first | assumption | lia) (by first | assumption | lia) (by first | assumption | lia) (by assumption) (by exact Rm.le (by assumption) (by decide)) ?_ rfl            ; intro h' tk' n' t' o' j' tj' hn' hj0' hj1' hd' F' N'; (try dsimp only at N')) | (refine w_lsign (by assumption) (by assumption) (by assumption) (by first | assumption | lia) (by first | assumption | lia) (by exact Rm.le (by assumption) (by decide)) ?_ rfl      ; intro h' tk' b' t' hb' F' N'))))) | walk1)
  rotate_left
  iterate 21 (first | ((fail_if_success fail_if_success with_reducible show wpAny _ _ (subscriptTail _ _ _ _) _ _ _); ((with_reducible show wpAny _ _ (subscriptTail _ _ (Value.ref _) (Value.str (PySem.Str.ofString "end") _)) _ _ _); (k_dflt (refine st_end (by assumption) (by k_mem) (by assumption) ?_ (by with_unfolding_all rfl) (by intro _; with_unfolding_all rfl))))) | ((fail_if_success fail_if_success with_reducible show wpAny _ _ (subscriptTail _ _ _ _) _ _ _); ((with_reducible show wpAny _ _ (subscriptTail _ _ (Value.ref _) (Value.str (PySem.Str.ofString "at") _)) _ _ _); (k_dflt (refine st_at (by assumption) (by k_mem) (by assumption) ?_ (by with_unfolding_all rfl) (by intro _; with_unfolding_all rfl))))) | walk1)
  rotate_left
  iterate 60 (focus (first | ((fail_if_success fail_if_success with_reducible show wpAny _ _ (setItem (Value.ref _) (Value.str _ _) _) _ _ _); ((with_reducible show wpAny _ _ (setItem (Value.ref _) (Value.str (PySem.Str.ofString "at") _) (Value.int _ _)) _ _ _); (k_dflt (refine st_set_at (by assumption) (by assumption) (by k_updF) (by assumption) ?_   )); intro h' o' F' N' hd'; (try dsimp only at N'))) | ((fail_if_success fail_if_success with_reducible show wpAny _ _ (subscriptTail _ _ _ _) _ _ _); ((with_reducible show wpAny _ _ (subscriptTail _ _ (Value.ref _) (Value.str (PySem.Str.ofString "octets") _)) _ _ _); (k_dflt (refine st_octets (by assumption) (by k_mem) (by assumption) ?_ (by with_unfolding_all rfl) (by intro _; with_unfolding_all rfl))))) | ((fail_if_success fail_if_success with_reducible show wpAny _ _ (subscriptTail _ _ _ _) _ _ _); ((with_reducible show wpAny _ _ (subscriptTail _ _ (Value.ref _) (Value.str (PySem.Str.ofString "at") _)) _ _ _); (k_dflt (refine st_at (by assumption) (by k_mem) (by assumption) ?_ (by with_unfolding_all rfl) (by intro _; with_unfolding_all rfl))))) | walk1))
  rotate_left
  · refine hret _ _ _ _ _ _ (.inr ⟨?_, rfl⟩) (by assumption) (by assumption) (by assumption) (Over.of (by assumption) (by assumption))
    rename _ ∨ _ => hn
    rcases hn with ⟨hn0, hu⟩ | ⟨hn1, hu⟩
    · exfalso; lia
    · exact nameP_u hu
  · refine hret _ _ _ _ _ _ (.inr ⟨?_, rfl⟩) (by assumption) (by assumption) (by assumption) (Over.of (by assumption) (by assumption))
    rename _ ∨ _ => hn
    rcases hn with ⟨hn0, hu⟩ | ⟨hn1, hu⟩
    · exact nameP_long hu (by assumption)
    · exact nameP_u hu
  rename Fr _ _ _ _ => F1
  rename News _ _ _ _ => N1
  rename StD _ _ _ _ _ _ _ _ => hdj
  rename KBw.bInts (KBy.picked _ _ _) = _ => kbcK
  rename _ ∨ _ => hn
  rcases hn with ⟨hn0, hu⟩ | ⟨hn1, _⟩
  case inr => exfalso; lia
  rw [slice_clip (by lia) (by lia)] at kbcK
  have hnm := nameP_eq hu (by assumption)
  rw [ln_len (by lia) hn0] at kbcK
  have hlen : ((ks.drop _).take _).length = _ := ln_length (ks := ks) (e := e) (by assumption) hn0 (by lia)
  k_dflt (refine lname_loop kbcK (by rw [hlen]; lia) (by rw [hlen]; lia) a (hr.le (by decide)) F1 (News_sub N1 fun q hq => .tail _ hq) ⟨rfl, rfl, rfl, rfl, rfl, trivial⟩ (fun cs hcs h' tk' m' t' F' hm' N' => ?_) fun hno h' tk' m' F' N' => ?_)
  · replace F' := Fr_on F' hm'
    dsimp only [ifsE] at F'
    rw [hcs] at hnm
    k_steps
    exact hret _ _ _ _ _ _ (.inl ⟨_, _, hnm, rfl⟩) (by lia) (by lia) hdj (Over.of (by assumption) (by assumption))
  · rw [hno] at hnm
    exact hret _ _ _ _ _ _ (.inr ⟨hnm, rfl⟩) (by lia) (by lia) hdj (Over.of (by assumption) (by assumption))
end
-- Me
section
variable {w : World} {mean : ExcName → Option Value} {mg mb : PySem.Str → Option Value} {A : Around} {base g hp : Heap} {outer : List Env} {gs : Array GenState} {dr : Drawn} {tk : Nat} {os : OsState} {Q E : Value → Shared → Prop}
  {d : Nat} {o : Obj} {bs : Array UInt8} {ks : List Int} {i e : Int} {tb ti te : Tok}
  {L f' : Addr} {m : PySem.Str → Option Value} {news : List (Addr × Obj)} {gg : Obj → List (Addr × Obj)} {qual : PySem.Str} {scope : Scope} {cd : Value}
theorem w_lname (a : Amb w mean mg mb A base outer g) (F : Fr g L hp m) (N : News g L hp news) (hm : (d, o) ∈ news) (U : UpdF d o news gg) (hd : StD w bs i e tb ti te o) (hb : KBw.bInts bs = ks) (h0 : 0 ≤ i) (hie : i ≤ e) (he : e ≤ ks.length) (hz : ks.length ≤ 1000) (hr : Rm A 21)
    (hsome : ∀ cs j, nameP ks e i = some (cs, j) → 0 ≤ j → j ≤ e → i < j → ∀ h' tk' t o' tj, StD w bs j e tb tj te o' → Fr g L h' m → News g L h' (gg o') → Q (.str (strOf cs) t) ⟨h', gs, dr, tk', os⟩)
    (hnone : nameP ks e i = none → ∀ h' tk' o' j tj, 0 ≤ j → j ≤ e → StD w bs j e tb tj te o' → Fr g L h' m → News g L h' (gg o') → Q .none ⟨h', gs, dr, tk', os⟩)
    (hk : scope.kind = .function) : wpAny (MW w) (A.deeper (envOf qual scope L f' cd)) (call (.ref 331) [.ref d]) Q E ⟨hp, gs, dr, tk, os⟩ := by
  have hin : ∀ p ∈ [(d, o)], p ∈ news := fun p hp => by rw [List.mem_singleton.mp hp]; exact hm
  refine c_lname hb h0 hie he hz (siteA (s := ⟨hp, gs, dr, tk, os⟩) a F N hin hk) hd (siteO (s := ⟨hp, gs, dr, tk, os⟩) N hin) hr.deeper fun h' tk' v o' j tj hn h1 h2 hd' ov => ?_
  obtain ⟨F', N'⟩ := site_back (s := ⟨hp, gs, dr, tk, os⟩) F N hin ov (updF_or (h := h') (g := g) (L := L) U)
  rcases hn with ⟨cs, t, hn, rfl⟩ | ⟨hn, rfl⟩
  · exact hsome cs j hn h1 h2 (nameP_range hb hn).1 h' tk' t o' tj hd' F' N'
  · exact hnone hn h' tk' o' j tj h1 h2 hd' F' N'
end
theorem u_nat {n : Int} {P R : Prop} (_h : (0 ≤ n ∧ P) ∨ (n = -1 ∧ R)) : ∃ k : Nat, k = n.toNat := ⟨_, rfl⟩
inductive JK (w : World) (ks : List Int) (bs : Array UInt8) (e nm : Int) (tb te tm : Tok) (d df : Nat) (whole : List (Int × List Int) × Option Int) (n : Nat) (m : PySem.Str → Option Value) (news : List (Addr × Obj)) : Prop
  | mk (last i t : Int) (kvs : List (Int × Value)) (done : List (Int × List Int)) (o of : Obj) (tl ti tt : Tok) (h1 : (0 ≤ nm → whole = (done ++ (mapP ks e n last i).1, (mapP ks e n last i).2) ∧ t + n = nm)) (h2 : (nm < 0 → whole = ([], none) ∧ done = [])) (h3 : KvS kvs done) (h4 : (∀ p ∈ kvs, p.1 ≤ last)) (h5 : -1 ≤ last) (h6 : 0 ≤ i) (h7 : i ≤ e) (h8 : kvs.length ≤ i) (h9 : 0 ≤ t) (h10 : of.IsDictOf (PySem.intKind PySem.Challenge.pw_nm0124_01 w) kvs) (h11 : StD w bs i e tb ti te o) (h12 : AllOn m [(PySem.Str.ofString "turn", .int t tt), (PySem.Str.ofString "last", .int last tl), (PySem.Str.ofString "many", .int nm tm), (PySem.Str.ofString "found", .ref df), (PySem.Str.ofString "state", .ref d)]) (h13 : news = [(df, of), (d, o)]) : JK w ks bs e nm tb te tm d df whole n m news
section
variable {w : World} {mean : ExcName → Option Value} {mg mb : PySem.Str → Option Value} {A : Around} {base g : Heap} {outer : List Env} {s : Shared} {Q E : Value → Shared → Prop}
  {d df : Nat} {o of : Obj} {bs : Array UInt8} {ks : List Int} {i e : Int} {tb ti te : Tok}
theorem nm_end {ks : List Int} {e nm t last i : Int} {n : Nat} {whole : List (Int × List Int) × Option Int} {done : List (Int × List Int)} (hw : 0 ≤ nm → whole = (done ++ (mapP ks e n last i).1, (mapP ks e n last i).2) ∧ t + n = nm) (hw' : nm < 0 → whole = ([], none) ∧ done = []) (ht : ¬ t < nm) (h0 : 0 ≤ t) :
    whole.1 = done ∧ ((whole.2 = some i ∧ decide (0 ≤ nm) = true) ∨ (whole.2 = none ∧ decide (0 ≤ nm) = false)) := by
  by_cases h : 0 ≤ nm
  · obtain ⟨rfl, h2⟩ := hw h
    obtain rfl : n = 0 := by lia
    exact ⟨List.append_nil _, .inl ⟨rfl, decide_eq_true h⟩⟩
  · obtain ⟨rfl, rfl⟩ := hw' (by lia)
    exact ⟨rfl, .inr ⟨rfl, decide_eq_false h⟩⟩
theorem c_lnames (hb : KBw.bInts bs = ks) (h0 : 0 ≤ i) (hie : i ≤ e) (he : e ≤ ks.length) (hz : ks.length ≤ 1000) (hne : @Ne Nat df d) (a : Amb w mean mg mb A base outer g) (hd : StD w bs i e tb ti te o) (hf : of.IsDictOf (PySem.intKind PySem.Challenge.pw_nm0124_01 w) []) (ov : Over g s [(df, of), (d, o)]) (hr : Rm A 24)
    (hret : ∀ h' tk' b of' kvs o' j tj, of'.IsDictOf (PySem.intKind PySem.Challenge.pw_nm0124_01 w) kvs → KvS kvs (mapsP ks e i).1 → (((mapsP ks e i).2 = some j ∧ b = true) ∨ ((mapsP ks e i).2 = none ∧ b = false)) → 0 ≤ j → j ≤ e → StD w bs j e tb tj te o' →
      Over g { s with heap := h', toks := tk' } [(df, of'), (d, o')] → Q (.bool b) { s with heap := h', toks := tk' }) :
    wpAny (MW w) A (call (.ref 338) [.ref d, .ref df]) Q E s := by
  obtain ⟨hnd, dp, fr, gd, un⟩ := A
  obtain rfl : hnd = none := a.hh
  obtain rfl : fr = some outer := a.B.stack
  have X := a.X
  have T := a.T
  have B := a.B
  refine wpAny_call ?_
  refine' enter (binds := [(PySem.Str.ofString "state", .ref d), (PySem.Str.ofString "found", .ref df)]) a ov ?k6 ?k7 ?k8 ?k9 ?kB ?_ ?c2 ?c3 ?c4 ?c5
  (case k6 => k_is)
  (case k7 => k_is)
  (case k8 => exact hr.depth)
  (case k9 => first | exact BindsTo.of_eq rfl | exact binds_K (a.X.keeps ov.st) rfl (by k_is) rfl rfl rfl)
  (case kB => exact locs rfl)
  (case c2 => exact rfl)
  (case c3 => exact rfl)
  (case c4 => exact rfl)
  (case c5 => decide)
  intro L F0 tk F N
  dsimp only [ifs, List.reverse, List.reverseAux] at F
  conv in (occs := *) fnBody _ => all_goals whnf
  conv in (occs := *) fnScope _ => all_goals whnf
  try dsimp only
  k_fold
  iterate 33 (focus (first | ((fail_if_success fail_if_success with_reducible show wpAny _ _ (call (Value.ref _) _ _) _ _ _); ((k_dflt (first | (refine w_lu32 (by assumption) (by assumption) (by assumption) (by k_mem) (by k_updF) (by assumption) (by assumption) (by first | assumption | lia) (by first | assumption | lia) (by first | assumption | lia) (by assumption) (by exact Rm.le (by assumption) (by decide)) ?_ rfl            ; intro h' tk' n' t' o' j' tj' hn' hj0' hj1' hd' F' N'; (try dsimp only at N')) | (refine w_lsign (by assumption) (by assumption) (by assumption) (by first | assumption | lia) (by first | assumption | lia) (by exact Rm.le (by assumption) (by decide)) ?_ rfl      ; intro h' tk' b' t' hb' F' N'))))) | walk1))
  rotate_left
  rename Fr _ _ _ _ => F1
  rename News _ _ _ _ => N1
  rename StD _ _ _ _ _ _ _ _ => hdj
  rename _ ∨ _ => hn
  obtain ⟨k0, hk0⟩ := u_nat hn
  refine While_inv2 (JK w ks bs e _ tb te _ d df (mapsP ks e i)) (n₀ := k0) F1 (News_sub N1 fun q hq => .tail _ hq) ⟨-1, _, 0, [], [], _, _, _, _, _, fun h => ?wh, fun h => ?wn, .nil, (fun _ hp => nomatch hp), by decide, ?i0, ?i1, ?i2, by decide, hf, hdj, ⟨rfl, rfl, rfl, rfl, rfl, trivial⟩, rfl⟩ ?turn
  case i0 => assumption
  case i1 => assumption
  case i2 => assumption
  case wh =>
    rcases hn with ⟨_, hu⟩ | ⟨h', _⟩
    · exact ⟨by rw [mapsP, hu, hk0]; rfl, by lia⟩
    · exfalso; lia
  case wn =>
    rcases hn with ⟨h', _⟩ | ⟨_, hu⟩
    · exfalso; lia
    · exact ⟨by rw [mapsP, hu], rfl⟩
  clear F1 N1 hn hdj hk0
  intro n m₁ news₁ h₁ tk₁ F₁ N₁ J₁
  obtain ⟨last, i₁, t₁, kvs, done, o₁, of₁, tl, ti₁, tt, hw, hw', hk, hl, hl1, hi0, hi1, hlen, ht0, hf₁, hd₁, hm, rfl⟩ := J₁
  replace F₁ := Fr_on F₁ hm
  dsimp only [ifsE] at F₁
  dsimp only
  have hsz : kvs.length ≤ sizeLine := by rw [sizeLine_eq]; lia
  repeat' (first | (k_unfold; (try dsimp only)) | (k_end; wrow_close) | ((fail_if_success fail_if_success with_reducible show wpAny _ _ (setItem (Value.ref _) (Value.int _ _) _) _ _ _); (k_dflt (refine kda_set (knd := PySem.intKind _ _) (by k_asm) (by k_asm) (by k_updF) (by k_asm) (intKind_is _ _ _ _) (by assumption) ?_    ); intro h' o' F' N' hd'; (try dsimp only at N'))) | ((fail_if_success fail_if_success with_reducible show wpAny _ _ (call (Value.ref _) _ _) _ _ _); ((k_dflt (refine w_lname (by assumption) (by assumption) (by assumption) (by k_mem) (by k_updF) (by assumption) (by assumption) (by first | assumption | lia) (by first | assumption | lia) (by first | assumption | lia) (by assumption) (by exact Rm.le (by assumption) (by decide)) ?_ ?_ rfl            ; (intro cs' j' hu' hj0' hj1' hj2' h' tk' t' o' tj' hd' F' N'; (try dsimp only at N')); rotate_left; (intro hu' h' tk' o' j' tj' hj0' hj1' hd' F' N'; (try dsimp only at N')); rotate_left)))) | ((fail_if_success fail_if_success with_reducible show wpAny _ _ (call (Value.ref _) _ _) _ _ _); ((k_dflt (first | (refine w_lu32 (by assumption) (by assumption) (by assumption) (by k_mem) (by k_updF) (by assumption) (by assumption) (by first | assumption | lia) (by first | assumption | lia) (by first | assumption | lia) (by assumption) (by exact Rm.le (by assumption) (by decide)) ?_ rfl            ; intro h' tk' n' t' o' j' tj' hn' hj0' hj1' hd' F' N'; (try dsimp only at N')) | (refine w_lsign (by assumption) (by assumption) (by assumption) (by first | assumption | lia) (by first | assumption | lia) (by exact Rm.le (by assumption) (by decide)) ?_ rfl      ; intro h' tk' b' t' hb' F' N'))))) | walk1 | (dsimp only; (first | ((fail_if_success fail_if_success with_reducible show wpAny _ _ (setItem (Value.ref _) (Value.int _ _) _) _ _ _); (k_dflt (refine kda_set (knd := PySem.intKind _ _) (by k_asm) (by k_asm) (by k_updF) (by k_asm) (intKind_is _ _ _ _) (by assumption) ?_    ); intro h' o' F' N' hd'; (try dsimp only at N'))) | ((fail_if_success fail_if_success with_reducible show wpAny _ _ (call (Value.ref _) _ _) _ _ _); ((k_dflt (refine w_lname (by assumption) (by assumption) (by assumption) (by k_mem) (by k_updF) (by assumption) (by assumption) (by first | assumption | lia) (by first | assumption | lia) (by first | assumption | lia) (by assumption) (by exact Rm.le (by assumption) (by decide)) ?_ ?_ rfl            ; (intro cs' j' hu' hj0' hj1' hj2' h' tk' t' o' tj' hd' F' N'; (try dsimp only at N')); rotate_left; (intro hu' h' tk' o' j' tj' hj0' hj1' hd' F' N'; (try dsimp only at N')); rotate_left)))) | ((fail_if_success fail_if_success with_reducible show wpAny _ _ (call (Value.ref _) _ _) _ _ _); ((k_dflt (first | (refine w_lu32 (by assumption) (by assumption) (by assumption) (by k_mem) (by k_updF) (by assumption) (by assumption) (by first | assumption | lia) (by first | assumption | lia) (by first | assumption | lia) (by assumption) (by exact Rm.le (by assumption) (by decide)) ?_ rfl            ; intro h' tk' n' t' o' j' tj' hn' hj0' hj1' hd' F' N'; (try dsimp only at N')) | (refine w_lsign (by assumption) (by assumption) (by assumption) (by first | assumption | lia) (by first | assumption | lia) (by exact Rm.le (by assumption) (by decide)) ?_ rfl      ; intro h' tk' b' t' hb' F' N'))))) | walk1)) | (leave1; (try dsimp only)) | fail "no step")
  · rename _ ∨ _ => hn
    rename nameP _ _ _ = some _ => hname
    rename StD _ _ _ _ _ _ _ _ => hdn
    rename Obj.IsDictOf _ _ (stored _ _ _) => hd₂
    rename Fr _ _ _ _ => F4
    rename News _ _ _ _ => N4
    rcases hn with ⟨_, hu⟩ | ⟨hn', _⟩
    case inr => exfalso; lia
    obtain ⟨hw1, hw2⟩ := hw (by lia)
    obtain ⟨n', rfl⟩ : ∃ n', n = n' + 1 := ⟨n - 1, by lia⟩
    have hr1 := u32P_range hb hu
    rw [mapP_ok hu (by lia) hname] at hw1
    rw [stored_new (fun q hq => by have := hl q hq; lia)] at hd₂
    refine wnext F4 (News_sub N4 fun q hq => .tail _ hq) (Nat.lt_succ_self _) ⟨_, _, _, _, _, _, _, _, _, _, fun _ => ⟨by rw [hw1, List.append_cons], by lia⟩, fun h => ?_, hk.snoc, fun q hq => ?_, by lia, by lia, by assumption, ?_, by lia, hd₂, hdn, ⟨rfl, rfl, rfl, rfl, rfl, trivial⟩, rfl⟩
    · exfalso; lia
    · rcases List.mem_append.mp hq with hq | hq
      · have := hl q hq; lia
      · rw [List.mem_singleton.mp hq]; exact Int.le_refl _
    · rw [List.length_append, List.length_singleton]; lia
  · rename _ ∨ _ => hn
    rename nameP _ _ _ = none => hname
    rename StD _ _ _ _ _ _ _ _ => hdn
    rcases hn with ⟨_, hu⟩ | ⟨hn', _⟩
    case inr => exfalso; lia
    obtain ⟨hw1, hw2⟩ := hw (by lia)
    obtain ⟨n', rfl⟩ : ∃ n', n = n' + 1 := ⟨n - 1, by lia⟩
    rw [mapP_name hu hname, List.append_nil] at hw1
    exact hret _ _ _ _ _ _ _ _ hf₁ (by rw [hw1]; exact hk) (.inr ⟨by rw [hw1], rfl⟩) (by assumption) (by assumption) hdn (Over.of (by assumption) (by assumption))
  · rename _ ∨ _ => hn
    rename StD _ _ _ _ _ _ _ _ => hdn
    obtain ⟨hw1, hw2⟩ := hw (by lia)
    obtain ⟨n', rfl⟩ : ∃ n', n = n' + 1 := ⟨n - 1, by lia⟩
    rcases hn with ⟨_, hu⟩ | ⟨_, hu⟩
    · rw [mapP_low hu (by lia), List.append_nil] at hw1
      exact hret _ _ _ _ _ _ _ _ hf₁ (by rw [hw1]; exact hk) (.inr ⟨by rw [hw1], rfl⟩) (by assumption) (by assumption) hdn (Over.of (by assumption) (by assumption))
    · rw [mapP_u hu, List.append_nil] at hw1
      exact hret _ _ _ _ _ _ _ _ hf₁ (by rw [hw1]; exact hk) (.inr ⟨by rw [hw1], rfl⟩) (by assumption) (by assumption) hdn (Over.of (by assumption) (by assumption))
  · refine hret _ _ _ _ _ _ _ _ hf₁ ?_ (nm_end hw hw' (by assumption) ht0).2 hi0 hi1 hd₁ (Over.of (by assumption) (by assumption))
    rw [(nm_end hw hw' (by assumption) ht0).1]; exact hk
end
-- Mf
section
variable {w : World} {mean : ExcName → Option Value} {mg mb : PySem.Str → Option Value} {A : Around} {base g hp : Heap} {outer : List Env} {gs : Array GenState} {dr : Drawn} {tk : Nat} {os : OsState} {Q E : Value → Shared → Prop}
  {d df : Nat} {o of : Obj} {bs : Array UInt8} {ks : List Int} {i e : Int} {tb ti te : Tok}
  {L f' : Addr} {m : PySem.Str → Option Value} {news : List (Addr × Obj)} {qual : PySem.Str} {scope : Scope} {cd : Value}
theorem two_or {h : Heap} {o' of' : Obj} {news' : List (Addr × Obj)} (N : News g L h news) (hin : ∀ p ∈ [(df, of), (d, o)], p ∈ news) (U : Puts [(df, of'), (d, o')] news news') : ∀ p ∈ news', p ∈ [(df, of'), (d, o')] ∨ (p ∈ news ∧ p.1 ∉ [(df, of), (d, o)].map (·.1)) :=
  puts_or N hin U (fun _ h => h) fun q hq => .inr (by
    rcases List.mem_cons.mp hq with rfl | hq
    · exact .head _
    · rw [List.mem_singleton.mp hq]; exact .tail _ (.head _))
theorem w_lnames {news' : Obj → Obj → List (Addr × Obj)} (a : Amb w mean mg mb A base outer g) (F : Fr g L hp m) (N : News g L hp news) (hm1 : (df, of) ∈ news) (hm2 : (d, o) ∈ news) (U : ∀ of' o', Puts [(df, of'), (d, o')] news (news' of' o')) (hne : @Ne Nat df d)
    (hd : StD w bs i e tb ti te o) (hf : of.IsDictOf (PySem.intKind PySem.Challenge.pw_nm0124_01 w) []) (hb : KBw.bInts bs = ks) (h0 : 0 ≤ i) (hie : i ≤ e) (he : e ≤ ks.length) (hz : ks.length ≤ 1000) (hr : Rm A 25)
    (htrue : ∀ j, (mapsP ks e i).2 = some j → 0 ≤ j → j ≤ e → i < j → ∀ h' tk' of' kvs o' tj, of'.IsDictOf (PySem.intKind PySem.Challenge.pw_nm0124_01 w) kvs → KvS kvs (mapsP ks e i).1 → StD w bs j e tb tj te o' → Fr g L h' m → News g L h' (news' of' o') → Q (.bool true) ⟨h', gs, dr, tk', os⟩)
    (hfalse : (mapsP ks e i).2 = none → ∀ h' tk' of' kvs o' j tj, of'.IsDictOf (PySem.intKind PySem.Challenge.pw_nm0124_01 w) kvs → KvS kvs (mapsP ks e i).1 → 0 ≤ j → j ≤ e → StD w bs j e tb tj te o' → Fr g L h' m → News g L h' (news' of' o') → Q (.bool false) ⟨h', gs, dr, tk', os⟩)
    (hk : scope.kind = .function) : wpAny (MW w) (A.deeper (envOf qual scope L f' cd)) (call (.ref 338) [.ref d, .ref df]) Q E ⟨hp, gs, dr, tk, os⟩ := by
  have hin : ∀ p ∈ [(df, of), (d, o)], p ∈ news := fun p hp => by
    rcases List.mem_cons.mp hp with rfl | hp
    · exact hm1
    · rw [List.mem_singleton.mp hp]; exact hm2
  refine c_lnames hb h0 hie he hz hne (siteA (s := ⟨hp, gs, dr, tk, os⟩) a F N hin hk) hd hf (siteO (s := ⟨hp, gs, dr, tk, os⟩) N hin) hr.deeper fun h' tk' b of' kvs o' j tj d' k' hn h1 h2 hd' ov => ?_
  obtain ⟨F', N'⟩ := site_back (s := ⟨hp, gs, dr, tk, os⟩) F N hin ov (two_or N hin (U of' o'))
  rcases hn with ⟨hn, rfl⟩ | ⟨hn, rfl⟩
  · exact htrue j hn h1 h2 (mapsP_range hb hn).1 h' tk' of' kvs o' tj d' k' hd' F' N'
  · exact hfalse hn h' tk' of' kvs o' j tj d' k' h1 h2 hd' F' N'
end
inductive JW (w : World) (ks : List Int) (bs : Array UInt8) (e nm : Int) (tb te tm : Tok) (d df : Nat) (whole : List (Int × List (Int × List Int)) × Option Int) (n : Nat) (m : PySem.Str → Option Value) (news : List (Addr × Obj)) : Prop
  | mk (last i t : Int) (kvs : List (Int × Value)) (done : List (Int × List (Int × List Int))) (o of : Obj) (inn : List (Addr × Obj)) (tl ti tt : Tok) (h1 : (0 ≤ nm → whole = (done ++ (rowP ks e n last i).1, (rowP ks e n last i).2) ∧ t + n = nm)) (h2 : (nm < 0 → whole = ([], none) ∧ done = [])) (h3 : RowS w kvs inn done) (h4 : (∀ p ∈ kvs, p.1 ≤ last)) (h5 : -1 ≤ last) (h6 : 0 ≤ i) (h7 : i ≤ e) (h8 : kvs.length ≤ i) (h9 : 0 ≤ t) (h10 : of.IsDictOf (PySem.intKind PySem.Challenge.pw_nm0124_01 w) kvs) (h11 : StD w bs i e tb ti te o) (h12 : Off inn df) (h13 : Off inn d) (h14 : AllOn m [(PySem.Str.ofString "turn", .int t tt), (PySem.Str.ofString "last", .int last tl), (PySem.Str.ofString "many", .int nm tm), (PySem.Str.ofString "found", .ref df), (PySem.Str.ofString "state", .ref d)]) (h15 : news = (df, of) :: (d, o) :: inn) : JW w ks bs e nm tb te tm d df whole n m news
theorem rw_end {ks : List Int} {e nm t last i : Int} {n : Nat} {whole : List (Int × List (Int × List Int)) × Option Int} {done : List (Int × List (Int × List Int))} (hw : 0 ≤ nm → whole = (done ++ (rowP ks e n last i).1, (rowP ks e n last i).2) ∧ t + n = nm) (hw' : nm < 0 → whole = ([], none) ∧ done = []) (ht : ¬ t < nm) (h0 : 0 ≤ t) :
    whole.1 = done ∧ ((whole.2 = some i ∧ decide (0 ≤ nm) = true) ∨ (whole.2 = none ∧ decide (0 ≤ nm) = false)) := by
  by_cases h : 0 ≤ nm
  · obtain ⟨rfl, h2⟩ := hw h
    obtain rfl : n = 0 := by lia
    exact ⟨List.append_nil _, .inl ⟨rfl, decide_eq_true h⟩⟩
  · obtain ⟨rfl, rfl⟩ := hw' (by lia)
    exact ⟨rfl, .inr ⟨rfl, decide_eq_false h⟩⟩
section
variable {w : World} {mean : ExcName → Option Value} {mg mb : PySem.Str → Option Value} {A : Around} {base g : Heap} {outer : List Env} {s : Shared} {Q E : Value → Shared → Prop}
  {d df : Nat} {o of : Obj} {bs : Array UInt8} {ks : List Int} {i e : Int} {tb ti te : Tok}
theorem row_rot2 {a b c : Addr × Obj} {inn : List (Addr × Obj)} (z : Addr × Obj) : z ∈ a :: b :: (inn ++ [c]) → z ∈ c :: a :: b :: inn := fun h => by
  simp only [List.mem_cons, List.mem_append, List.not_mem_nil, or_false] at h ⊢
  rcases h with h | h | h | h <;> simp [h]
theorem row_rot {t a b c : Addr × Obj} {inn : List (Addr × Obj)} (z : Addr × Obj) : z ∈ a :: b :: (inn ++ [c]) → z ∈ t :: c :: a :: b :: inn := fun h => .tail _ (row_rot2 z h)
theorem c_lrows (hb : KBw.bInts bs = ks) (h0 : 0 ≤ i) (hie : i ≤ e) (he : e ≤ ks.length) (hz : ks.length ≤ 1000) (hne : @Ne Nat df d) (a : Amb w mean mg mb A base outer g) (hd : StD w bs i e tb ti te o) (hf : of.IsDictOf (PySem.intKind PySem.Challenge.pw_nm0124_01 w) []) (ov : Over g s [(df, of), (d, o)]) (hr : Rm A 28)
    (hret : ∀ h' tk' b of' kvs inn o' j tj, of'.IsDictOf (PySem.intKind PySem.Challenge.pw_nm0124_01 w) kvs → RowS w kvs inn (rowsP ks e i).1 → (((rowsP ks e i).2 = some j ∧ b = true) ∨ ((rowsP ks e i).2 = none ∧ b = false)) → 0 ≤ j → j ≤ e → StD w bs j e tb tj te o' → Off inn df → Off inn d →
      Over g { s with heap := h', toks := tk' } ((df, of') :: (d, o') :: inn) → Q (.bool b) { s with heap := h', toks := tk' }) :
    wpAny (MW w) A (call (.ref 345) [.ref d, .ref df]) Q E s := by
  obtain ⟨hnd, dp, fr, gd, un⟩ := A
  obtain rfl : hnd = none := a.hh
  obtain rfl : fr = some outer := a.B.stack
  have X := a.X
  have T := a.T
  have B := a.B
  refine wpAny_call ?_
  refine' enter (binds := [(PySem.Str.ofString "state", .ref d), (PySem.Str.ofString "found", .ref df)]) a ov ?k6 ?k7 ?k8 ?k9 ?kB ?_ ?c2 ?c3 ?c4 ?c5
  (case k6 => k_is)
  (case k7 => k_is)
  (case k8 => exact hr.depth)
  (case k9 => first | exact BindsTo.of_eq rfl | exact binds_K (a.X.keeps ov.st) rfl (by k_is) rfl rfl rfl)
  (case kB => exact locs rfl)
  (case c2 => exact rfl)
  (case c3 => exact rfl)
  (case c4 => exact rfl)
  (case c5 => decide)
  intro L F0 tk F N
  dsimp only [ifs, List.reverse, List.reverseAux] at F
  conv in (occs := *) fnBody _ => all_goals whnf
  conv in (occs := *) fnScope _ => all_goals whnf
  try dsimp only
  k_fold
  iterate 33 (focus (first | ((fail_if_success fail_if_success with_reducible show wpAny _ _ (call (Value.ref _) _ _) _ _ _); ((k_dflt (first | (refine w_lu32 (by assumption) (by assumption) (by assumption) (by k_mem) (by k_updF) (by assumption) (by assumption) (by first | assumption | lia) (by first | assumption | lia) (by first | assumption | lia) (by assumption) (by exact Rm.le (by assumption) (by decide)) ?_ rfl            ; intro h' tk' n' t' o' j' tj' hn' hj0' hj1' hd' F' N'; (try dsimp only at N')) | (refine w_lsign (by assumption) (by assumption) (by assumption) (by first | assumption | lia) (by first | assumption | lia) (by exact Rm.le (by assumption) (by decide)) ?_ rfl      ; intro h' tk' b' t' hb' F' N'))))) | walk1))
  rotate_left
  rename Fr _ _ _ _ => F1
  rename News _ _ _ _ => N1
  rename StD _ _ _ _ _ _ _ _ => hdj
  rename _ ∨ _ => hn
  obtain ⟨k0, hk0⟩ := u_nat hn
  refine While_inv2 (JW w ks bs e _ tb te _ d df (rowsP ks e i)) (n₀ := k0) F1 (News_sub N1 fun q hq => .tail _ hq) ⟨-1, _, 0, [], [], _, _, [], _, _, _, fun h => ?wh, fun h => ?wn, .nil, (fun _ hp => nomatch hp), by decide, ?i0, ?i1, ?i2, by decide, hf, hdj, off_nil, off_nil, ⟨rfl, rfl, rfl, rfl, rfl, trivial⟩, rfl⟩ ?turn
  case i0 => assumption
  case i1 => assumption
  case i2 => assumption
  case wh =>
    rcases hn with ⟨_, hu⟩ | ⟨h', _⟩
    · exact ⟨by rw [rowsP, hu, hk0]; rfl, by lia⟩
    · exfalso; lia
  case wn =>
    rcases hn with ⟨h', _⟩ | ⟨_, hu⟩
    · exfalso; lia
    · exact ⟨by rw [rowsP, hu], rfl⟩
  clear F1 N1 hn hdj hk0
  intro n m₁ news₁ h₁ tk₁ F₁ N₁ J₁
  obtain ⟨last, i₁, t₁, kvs, done, o₁, of₁, inn, tl, ti₁, tt, hw, hw', hk, hl, hl1, hi0, hi1, hlen, ht0, hf₁, hd₁, o1, o2, hm, rfl⟩ := J₁
  replace F₁ := Fr_on F₁ hm
  dsimp only [ifsE] at F₁
  dsimp only
  have hsz : kvs.length ≤ sizeLine := by rw [sizeLine_eq]; lia
  repeat' (first | (k_unfold; (try dsimp only)) | (k_end; wrow_close) | ((fail_if_success fail_if_success with_reducible show wpAny _ _ (setItem (Value.ref _) (Value.int _ _) _) _ _ _); (k_dflt (refine kda_set (knd := PySem.intKind _ _) (by k_asm) (by k_asm) (by k_updF) (by k_asm) (intKind_is _ _ _ _) (by assumption) ?_    ); intro h' o' F' N' hd'; (try dsimp only at N'))) | ((fail_if_success fail_if_success with_reducible show wpAny _ _ (call (Value.ref _) _ _) _ _ _); ((k_dflt (first | (refine w_lu32 (by assumption) (by assumption) (by assumption) (by k_mem) (by k_updF) (by assumption) (by assumption) (by first | assumption | lia) (by first | assumption | lia) (by first | assumption | lia) (by assumption) (by exact Rm.le (by assumption) (by decide)) ?_ rfl            ; intro h' tk' n' t' o' j' tj' hn' hj0' hj1' hd' F' N'; (try dsimp only at N')) | (refine w_lsign (by assumption) (by assumption) (by assumption) (by first | assumption | lia) (by first | assumption | lia) (by exact Rm.le (by assumption) (by decide)) ?_ rfl      ; intro h' tk' b' t' hb' F' N'))))) | walk1 | (dsimp only; (first | ((fail_if_success fail_if_success with_reducible show wpAny _ _ (setItem (Value.ref _) (Value.int _ _) _) _ _ _); (k_dflt (refine kda_set (knd := PySem.intKind _ _) (by k_asm) (by k_asm) (by k_updF) (by k_asm) (intKind_is _ _ _ _) (by assumption) ?_    ); intro h' o' F' N' hd'; (try dsimp only at N'))) | ((fail_if_success fail_if_success with_reducible show wpAny _ _ (call (Value.ref _) _ _) _ _ _); ((k_dflt (first | (refine w_lu32 (by assumption) (by assumption) (by assumption) (by k_mem) (by k_updF) (by assumption) (by assumption) (by first | assumption | lia) (by first | assumption | lia) (by first | assumption | lia) (by assumption) (by exact Rm.le (by assumption) (by decide)) ?_ rfl            ; intro h' tk' n' t' o' j' tj' hn' hj0' hj1' hd' F' N'; (try dsimp only at N')) | (refine w_lsign (by assumption) (by assumption) (by assumption) (by first | assumption | lia) (by first | assumption | lia) (by exact Rm.le (by assumption) (by decide)) ?_ rfl      ; intro h' tk' b' t' hb' F' N'))))) | walk1)) | (leave1; (try dsimp only)) | fail "no step")
  · rename _ ∨ _ => hn
    rename StD _ _ _ _ _ _ _ _ => hdn
    obtain ⟨hw1, hw2⟩ := hw (by lia)
    obtain ⟨n', rfl⟩ : ∃ n', n = n' + 1 := ⟨n - 1, by lia⟩
    rcases hn with ⟨_, hu⟩ | ⟨_, hu⟩
    · rw [rowP_low hu (by assumption), List.append_nil] at hw1
      exact hret _ _ _ _ _ _ _ _ _ hf₁ (by rw [hw1]; exact hk) (.inr ⟨by rw [hw1], rfl⟩) (by assumption) (by assumption) hdn o1 o2 (Over.of (by assumption) (by assumption))
    · rw [rowP_u hu, List.append_nil] at hw1
      exact hret _ _ _ _ _ _ _ _ _ hf₁ (by rw [hw1]; exact hk) (.inr ⟨by rw [hw1], rfl⟩) (by assumption) (by assumption) hdn o1 o2 (Over.of (by assumption) (by assumption))
  · rename _ ∨ _ => hn
    rename StD _ _ _ _ _ _ _ _ => hdn
    rename Obj.IsDictOf _ _ (stored _ _ _) => hd₂
    rcases hn with ⟨_, hu⟩ | ⟨hn', _⟩
    case inr => exfalso; lia
    obtain ⟨hw1, hw2⟩ := hw (by lia)
    obtain ⟨n', rfl⟩ : ∃ n', n = n' + 1 := ⟨n - 1, by lia⟩
    have hr1 := u32P_range hb hu
    rw [stored_new (fun q hq => by have := hl q hq; lia)] at hd₂
    refine kda_item (knd := PySem.intKind _ _) (by assumption) (by k_mem) hd₂ (intKind_is _ _ _ _) (valueAt_stored (fun q hq => by have := hl q hq; lia)) ?_
    dsimp only
    repeat' (first | (k_unfold; (try dsimp only)) | (k_end; wrow_close) | ((fail_if_success fail_if_success with_reducible show wpAny _ _ (call (Value.ref _) _ _) _ _ _); ((k_dflt (refine w_lnames (by assumption) (by assumption) (by assumption) (by k_mem) (by k_mem) (by exact fun _ _ => Puts.cons (by k_upd) (Puts.cons (by k_upd) Puts.nil)) (by first | assumption | lia) (by assumption) (by assumption) (by assumption) (by first | assumption | lia) (by first | assumption | lia) (by first | assumption | lia) (by assumption) (by exact Rm.le (by assumption) (by decide)) ?_ ?_ rfl               ; (intro j' hu' hj0' hj1' hj2' h' tk' of' kv' o' tj' hf' hk' hd' F' N'; (try dsimp only at N')); rotate_left; (intro hu' h' tk' of' kv' o' j' tj' hf' hk' hj0' hj1' hd' F' N'; (try dsimp only at N')); rotate_left)))) | walk1 | (dsimp only; (first | ((fail_if_success fail_if_success with_reducible show wpAny _ _ (call (Value.ref _) _ _) _ _ _); ((k_dflt (refine w_lnames (by assumption) (by assumption) (by assumption) (by k_mem) (by k_mem) (by exact fun _ _ => Puts.cons (by k_upd) (Puts.cons (by k_upd) Puts.nil)) (by first | assumption | lia) (by assumption) (by assumption) (by assumption) (by first | assumption | lia) (by first | assumption | lia) (by first | assumption | lia) (by assumption) (by exact Rm.le (by assumption) (by decide)) ?_ ?_ rfl               ; (intro j' hu' hj0' hj1' hj2' h' tk' of' kv' o' tj' hf' hk' hd' F' N'; (try dsimp only at N')); rotate_left; (intro hu' h' tk' of' kv' o' j' tj' hf' hk' hj0' hj1' hd' F' N'; (try dsimp only at N')); rotate_left)))) | walk1)) | (leave1; (try dsimp only)) | fail "no step")
    · rename Obj.IsDictOf (PySem.intKind _ _) _ _ => hdc
      rename KvS _ (mapsP _ _ _).1 => hkv
      rename StD _ _ _ _ _ _ _ _ => hdn2
      rename _ ∧ _ ∧ AllLt _ _ => l1
      rename Fr _ _ _ _ => F4
      rename News _ _ _ _ => N4
      rw [rowP_ok hu (by assumption) (by assumption)] at hw1
      refine wnext F4 (News_sub N4 row_rot) (Nat.lt_succ_self _) ⟨_, _, _, _, _, _, _, _, _, _, _, fun _ => ⟨by rw [hw1, List.append_cons], by lia⟩, fun h => ?_, RowS.snoc hdc hkv hk, fun q hq => ?_, by lia, by lia, by assumption, ?_, by lia, hd₂, hdn2, off_snoc o1 (Nat.ne_of_gt l1.1), off_snoc o2 (Nat.ne_of_gt l1.2.1), ⟨rfl, rfl, rfl, rfl, rfl, trivial⟩, rfl⟩
      · exfalso; lia
      · rcases List.mem_append.mp hq with hq | hq
        · have := hl q hq; lia
        · rw [List.mem_singleton.mp hq]; exact Int.le_refl _
      · rw [List.length_append, List.length_singleton]; lia
    · rename Obj.IsDictOf (PySem.intKind _ _) _ _ => hdc
      rename KvS _ (mapsP _ _ _).1 => hkv
      rename StD _ _ _ _ _ _ _ _ => hdn2
      rename _ ∧ _ ∧ AllLt _ _ => l1
      rename Fr _ _ _ _ => F4
      rename News _ _ _ _ => N4
      rw [rowP_map hu (by assumption) (by assumption)] at hw1
      exact hret _ _ _ _ _ _ _ _ _ hd₂ (by rw [hw1]; exact RowS.snoc hdc hkv hk) (.inr ⟨by rw [hw1], rfl⟩) (by assumption) (by assumption) hdn2 (off_snoc o1 (Nat.ne_of_gt l1.1)) (off_snoc o2 (Nat.ne_of_gt l1.2.1)) ((Over.of F4 N4).sub row_rot2)
  · refine hret _ _ _ _ _ _ _ _ _ hf₁ ?_ (rw_end hw hw' (by assumption) ht0).2 hi0 hi1 hd₁ o1 o2 (Over.of (by assumption) (by assumption))
    rw [(rw_end hw hw' (by assumption) ht0).1]; exact hk
end
-- Mg
section
variable {w : World} {mean : ExcName → Option Value} {mg mb : PySem.Str → Option Value} {A : Around} {base g hp : Heap} {outer : List Env} {gs : Array GenState} {dr : Drawn} {tk : Nat} {os : OsState} {Q E : Value → Shared → Prop}
  {d df : Nat} {o of : Obj} {bs : Array UInt8} {ks : List Int} {i e : Int} {tb ti te : Tok}
  {L f' : Addr} {m : PySem.Str → Option Value} {news : List (Addr × Obj)} {qual : PySem.Str} {scope : Scope} {cd : Value}
theorem w_lrows {news' : Obj → Obj → List (Addr × Obj)} (a : Amb w mean mg mb A base outer g) (F : Fr g L hp m) (N : News g L hp news) (hm1 : (df, of) ∈ news) (hm2 : (d, o) ∈ news) (U : ∀ of' o', Puts [(df, of'), (d, o')] news (news' of' o')) (hne : @Ne Nat df d)
    (hd : StD w bs i e tb ti te o) (hf : of.IsDictOf (PySem.intKind PySem.Challenge.pw_nm0124_01 w) []) (hb : KBw.bInts bs = ks) (h0 : 0 ≤ i) (hie : i ≤ e) (he : e ≤ ks.length) (hz : ks.length ≤ 1000) (hr : Rm A 29)
    (htrue : ∀ j, (rowsP ks e i).2 = some j → 0 ≤ j → j ≤ e → i < j → ∀ h' tk' of' kvs inn o' tj, of'.IsDictOf (PySem.intKind PySem.Challenge.pw_nm0124_01 w) kvs → RowS w kvs inn (rowsP ks e i).1 → (∀ q ∈ news, Off inn q.1) → StD w bs j e tb tj te o' → Fr g L h' m → News g L h' (news' of' o' ++ inn) → Q (.bool true) ⟨h', gs, dr, tk', os⟩)
    (hfalse : (rowsP ks e i).2 = none → ∀ h' tk' of' kvs inn o' j tj, of'.IsDictOf (PySem.intKind PySem.Challenge.pw_nm0124_01 w) kvs → RowS w kvs inn (rowsP ks e i).1 → (∀ q ∈ news, Off inn q.1) → 0 ≤ j → j ≤ e → StD w bs j e tb tj te o' → Fr g L h' m → News g L h' (news' of' o' ++ inn) → Q (.bool false) ⟨h', gs, dr, tk', os⟩)
    (hk : scope.kind = .function) : wpAny (MW w) (A.deeper (envOf qual scope L f' cd)) (call (.ref 345) [.ref d, .ref df]) Q E ⟨hp, gs, dr, tk, os⟩ := by
  have hin : ∀ p ∈ [(df, of), (d, o)], p ∈ news := fun p hp => by
    rcases List.mem_cons.mp hp with rfl | hp
    · exact hm1
    · rw [List.mem_singleton.mp hp]; exact hm2
  refine c_lrows hb h0 hie he hz hne (siteA (s := ⟨hp, gs, dr, tk, os⟩) a F N hin hk) hd hf (siteO (s := ⟨hp, gs, dr, tk, os⟩) N hin) hr.deeper fun h' tk' b of' kvs inn o' j tj d' k' hn h1 h2 hd' f1 f2 ov => ?_
  obtain ⟨F', N'⟩ := site_back (s := ⟨hp, gs, dr, tk, os⟩) (news' := news' of' o' ++ inn) F N hin ov (fun p hp => by
    rcases List.mem_append.mp hp with hp | hp
    · exact (two_or N hin (U of' o') p hp).imp (fun z => by
        rcases List.mem_cons.mp z with rfl | z
        · exact .head _
        · rw [List.mem_singleton.mp z]; exact .tail _ (.head _)) id
    · exact .inl (.tail _ (.tail _ hp)))
  have hof : ∀ q ∈ news, Off inn q.1 := fun q hq p hp e' => by
    rcases same_or N hin q hq with r | ⟨r, r'⟩
    · rcases List.mem_cons.mp r with rfl | r
      · exact f1 p hp e'
      · rw [List.mem_singleton.mp r] at e'; exact f2 p hp e'
    · have h1 := (ov.O p (.tail _ (.tail _ hp))).2
      rw [e', hideAll_get _ (N q r).1 r'] at h1
      cases h1
  rcases hn with ⟨hn, rfl⟩ | ⟨hn, rfl⟩
  · exact htrue j hn h1 h2 (rowsP_range hb hn).1 h' tk' of' kvs inn o' tj d' k' hof hd' F' N'
  · exact hfalse hn h' tk' of' kvs inn o' j tj d' k' hof h1 h2 hd' F' N'
end
theorem st_nodup : [PySem.Str.ofString "octets", PySem.Str.ofString "at", PySem.Str.ofString "end"].Nodup := by decide +kernel
inductive JQ (w : World) (ks : List Int) (bs : Array UInt8) (tb : Tok) (d df dl : Nat) (n : Nat) (m : PySem.Str → Option Value) (news : List (Addr × Obj)) : Prop
  | mk (i last e : Int) (st : St) (mv : Value) (of ol o : Obj) (inn : List (Addr × Obj)) (ti te tl : Tok) (h1 : sectP ks (ks.length + 1) (-1) 0 ⟨none, [], []⟩ = sectP ks n last i st) (h2 : ks.length - i < n) (h3 : 0 ≤ i) (h4 : i ≤ ks.length) (h5 : Tells w st mv of ol inn) (h6 : (last < 0 → st.mod = none)) (h7 : (last < 1 → st.fs = [])) (h8 : (last < 2 → st.rs = [])) (h9 : Off inn d) (h10 : Off inn df) (h11 : Off inn dl) (h12 : StD w bs i e tb ti te o) (h13 : AllOn m [(PySem.Str.ofString "last", .int last tl), (PySem.Str.ofString "rows", .ref dl), (PySem.Str.ofString "funcs", .ref df), (PySem.Str.ofString "title", mv), (PySem.Str.ofString "state", .ref d), (PySem.Str.ofString "octets", .bytes bs tb)]) (h14 : news = (d, o) :: (df, of) :: (dl, ol) :: inn) : JQ w ks bs tb d df dl n m news
section
variable {w : World} {mean : ExcName → Option Value} {mg mb : PySem.Str → Option Value} {A : Around} {base g : Heap} {outer : List Env} {s : Shared} {Q E : Value → Shared → Prop}
  {bs : Array UInt8} {ks : List Int} {tb : Tok}
theorem lr_sub {t a b c : Addr × Obj} {inn : List (Addr × Obj)} : ∀ z ∈ t :: b :: c :: inn, z ∈ t :: a :: b :: c :: inn := fun z h => by
  rcases List.mem_cons.mp h with rfl | h
  · exact .head _
  · exact .tail _ (.tail _ h)
theorem rot4 {g h : Heap} {L : Addr} {t l f d : Addr × Obj} (N : News g L h [t, l, f, d]) : News g L h [d, f, l] := News_sub N fun z hz => by
  simp only [List.mem_cons, List.not_mem_nil, or_false] at hz ⊢
  rcases hz with h | h | h <;> simp [h]
theorem c_lread (hb : KBw.bInts bs = ks) (hz : ks.length ≤ 1000) (a : Amb w mean mg mb A base outer g) (ov : Over g s []) (hr : Rm A 32)
    (hret : ∀ h' tk' T mv df dl of ol inn, Tells w (sectP ks (ks.length + 1) (-1) 0 ⟨none, [], []⟩).1 mv of ol inn → @Ne Nat df dl → @Ne Nat T df → @Ne Nat T dl → Off inn T → Off inn df → Off inn dl →
      Over g { s with heap := h', toks := tk' } ((T, { cls := .type "tuple", data := .seq #[mv, .ref df, .ref dl, .bool (sectP ks (ks.length + 1) (-1) 0 ⟨none, [], []⟩).2] }) :: (df, of) :: (dl, ol) :: inn) → Q (.ref T) { s with heap := h', toks := tk' }) :
    wpAny (MW w) A (call (.ref 352) [.bytes bs tb]) Q E s := by
  obtain ⟨hnd, dp, fr, gd, un⟩ := A
  obtain rfl : hnd = none := a.hh
  obtain rfl : fr = some outer := a.B.stack
  have X := a.X
  have T := a.T
  have B := a.B
  refine wpAny_call ?_
  refine' enter (binds := [(PySem.Str.ofString "octets", .bytes bs tb)]) a ov ?k6 ?k7 ?k8 ?k9 ?kB ?_ ?c2 ?c3 ?c4 ?c5
  (case k6 => k_is)
  (case k7 => k_is)
  (case k8 => exact hr.depth)
  (case k9 => first | exact BindsTo.of_eq rfl | exact binds_K (a.X.keeps ov.st) rfl (by k_is) rfl rfl rfl)
  (case kB => exact locs rfl)
  (case c2 => exact rfl)
  (case c3 => exact rfl)
  (case c4 => exact rfl)
  (case c5 => decide)
  intro L F0 tk F N
  dsimp only [ifs, List.reverse, List.reverseAux] at F
  conv in (occs := *) fnBody _ => all_goals whnf
  conv in (occs := *) fnScope _ => all_goals whnf
  try dsimp only
  k_fold
  iterate 40 (focus (first | ((fail_if_success fail_if_success with_reducible show @Exists _ _); (k_dflt (refine kda_made_str (by k_asm) (by first | k_asm | exact News.nil) (Top.nolimit (by k_asm)) (by rfl) st_nodup (by rfl) ?_); intro h' o' F' N' l1 lo' hd'; (try k_lt l1))) | walk1))
  dsimp only
  iterate 7 (focus walk1)
  rename Fr _ _ _ _ => F1
  rename News _ _ _ _ => N1
  rename Obj.IsDictOf (PySem.strKind _ _) _ (strPairs _) => hdj
  refine While_inv2 (JQ w ks bs tb _ _ _) (n₀ := ks.length + 1) F1 (rot4 N1) ⟨0, -1, 0, ⟨none, [], []⟩, .none, _, _, _, [], _, _, _, rfl, by lia, by lia, by lia, ⟨rfl, ⟨_, ?d1, .nil⟩, ⟨_, ?d2, .nil⟩⟩, fun _ => rfl, fun _ => rfl, fun _ => rfl, off_nil, off_nil, off_nil, hdj, ⟨rfl, rfl, rfl, rfl, rfl, rfl, trivial⟩, rfl⟩ ?turn
  case d1 => assumption
  case d2 => assumption
  have hfin : ∀ (df dl : Nat) (hne : @Ne Nat df dl) (b : Bool) (st : St) (mv : Value) (of ol o : Obj) (inn : List (Addr × Obj)) (h1 h2 : Heap) (m2 : PySem.Str → Option Value) (d : Nat), sectP ks (ks.length + 1) (-1) 0 ⟨none, [], []⟩ = (st, b) → Tells w st mv of ol inn → Off inn df → Off inn dl →
      News g L h1 ((d, o) :: (df, of) :: (dl, ol) :: inn) → Fr g L h2 m2 → News g L h2 ((h1.objs.size, { cls := .type "tuple", data := .seq #[mv, .ref df, .ref dl, .bool b] }) :: (d, o) :: (df, of) :: (dl, ol) :: inn) → ∀ tk', Q (.ref h1.objs.size) { s with heap := h2, toks := tk' } := by
    intro df dl hne b st mv of ol o inn h1 h2 m2 d e1 tl f1 f2 N1 F2 N2 tk'
    rw [e1] at hret
    refine hret _ _ _ _ _ _ _ _ _ tl hne ?_ ?_ (fun p hp => ?_) f1 f2 ((Over.of F2 N2).sub lr_sub)
    · exact Nat.ne_of_gt (Heap.lt_size (N1 _ (.tail _ (.head _))).1)
    · exact Nat.ne_of_gt (Heap.lt_size (N1 _ (.tail _ (.tail _ (.head _)))).1)
    · exact Nat.ne_of_lt (Heap.lt_size (N1 _ (.tail _ (.tail _ (.tail _ hp)))).1)
  clear F1 N1 hdj
  intro n m₁ news₁ h₁ tk₁ F₁ N₁ J₁
  obtain ⟨i, last, e, st, mv, of, ol, o, inn, ti, te, tl, hw, hn, hi0, hi1, htl, hmo, hfs, hrs, o1, o2, o3, hd₁, hm, rfl⟩ := J₁
  replace F₁ := Fr_on F₁ hm
  dsimp only [ifsE] at F₁
  dsimp only
  obtain ⟨k, rfl⟩ : ∃ k, n = k + 1 := ⟨n - 1, by lia⟩
  repeat' (first | (k_unfold; (try dsimp only)) | (k_end; wrow_close) | ((fail_if_success fail_if_success with_reducible show wpAny _ _ (call (Value.ref _) _ _) _ _ _); ((k_dflt (first | (refine' w_lu32 ?a ?F ?N ?m ?U ?d ?hb ?h0 ?hie ?he ?hz ?r ?_ rfl; (case a => assumption); (case F => assumption); (case N => assumption); (case m => k_mem); (case U => k_updF); (case d => assumption); (case hb => assumption); (case h0 => first | assumption | lia); (case hie => first | assumption | lia); (case he => first | assumption | lia); (case hz => assumption); (case r => exact Rm.le (by assumption) (by decide)); intro h' tk' n' t' o' j' tj' hn' hj0' hj1' hd' F' N'; (try dsimp only at N')) | (refine' w_lsign ?a ?F ?N ?h0 ?h1 ?r ?_ rfl; (case a => assumption); (case F => assumption); (case N => assumption); (case h0 => first | assumption | lia); (case h1 => first | assumption | lia); (case r => exact Rm.le (by assumption) (by decide)); intro h' tk' b' t' hb' F' N'))))) | ((fail_if_success fail_if_success with_reducible show wpAny _ _ (setItem (Value.ref _) (Value.str _ _) _) _ _ _); ((with_reducible show wpAny _ _ (setItem (Value.ref _) (Value.str (PySem.Str.ofString "end") _) (Value.int _ _)) _ _ _); (k_dflt (refine' st_set_end ?F ?N ?U ?d ?_; (case F => assumption); (case N => assumption); (case U => k_updF); (case d => assumption))); intro h' o' F' N' hd'; (try dsimp only at N'))) | ((fail_if_success fail_if_success with_reducible show wpAny _ _ (setItem (Value.ref _) (Value.str _ _) _) _ _ _); ((with_reducible show wpAny _ _ (setItem (Value.ref _) (Value.str (PySem.Str.ofString "at") _) (Value.int _ _)) _ _ _); (k_dflt (refine' st_set_at ?F ?N ?U ?d ?_; (case F => assumption); (case N => assumption); (case U => k_updF); (case d => assumption))); intro h' o' F' N' hd'; (try dsimp only at N'))) | ((fail_if_success fail_if_success with_reducible show wpAny _ _ (subscriptTail _ _ _ _) _ _ _); ((with_reducible show wpAny _ _ (subscriptTail _ _ (Value.ref _) (Value.str (PySem.Str.ofString "at") _)) _ _ _); (k_dflt (refine st_at (by assumption) (by k_mem) (by assumption) ?_ (by with_unfolding_all rfl) (by intro _; with_unfolding_all rfl))))) | walk1 | (dsimp only; (first | ((fail_if_success fail_if_success with_reducible show wpAny _ _ (call (Value.ref _) _ _) _ _ _); ((k_dflt (first | (refine' w_lu32 ?a ?F ?N ?m ?U ?d ?hb ?h0 ?hie ?he ?hz ?r ?_ rfl; (case a => assumption); (case F => assumption); (case N => assumption); (case m => k_mem); (case U => k_updF); (case d => assumption); (case hb => assumption); (case h0 => first | assumption | lia); (case hie => first | assumption | lia); (case he => first | assumption | lia); (case hz => assumption); (case r => exact Rm.le (by assumption) (by decide)); intro h' tk' n' t' o' j' tj' hn' hj0' hj1' hd' F' N'; (try dsimp only at N')) | (refine' w_lsign ?a ?F ?N ?h0 ?h1 ?r ?_ rfl; (case a => assumption); (case F => assumption); (case N => assumption); (case h0 => first | assumption | lia); (case h1 => first | assumption | lia); (case r => exact Rm.le (by assumption) (by decide)); intro h' tk' b' t' hb' F' N'))))) | ((fail_if_success fail_if_success with_reducible show wpAny _ _ (setItem (Value.ref _) (Value.str _ _) _) _ _ _); ((with_reducible show wpAny _ _ (setItem (Value.ref _) (Value.str (PySem.Str.ofString "end") _) (Value.int _ _)) _ _ _); (k_dflt (refine' st_set_end ?F ?N ?U ?d ?_; (case F => assumption); (case N => assumption); (case U => k_updF); (case d => assumption))); intro h' o' F' N' hd'; (try dsimp only at N'))) | ((fail_if_success fail_if_success with_reducible show wpAny _ _ (setItem (Value.ref _) (Value.str _ _) _) _ _ _); ((with_reducible show wpAny _ _ (setItem (Value.ref _) (Value.str (PySem.Str.ofString "at") _) (Value.int _ _)) _ _ _); (k_dflt (refine' st_set_at ?F ?N ?U ?d ?_; (case F => assumption); (case N => assumption); (case U => k_updF); (case d => assumption))); intro h' o' F' N' hd'; (try dsimp only at N'))) | ((fail_if_success fail_if_success with_reducible show wpAny _ _ (subscriptTail _ _ _ _) _ _ _); ((with_reducible show wpAny _ _ (subscriptTail _ _ (Value.ref _) (Value.str (PySem.Str.ofString "at") _)) _ _ _); (k_dflt (refine st_at (by assumption) (by k_mem) (by assumption) ?_ (by with_unfolding_all rfl) (by intro _; with_unfolding_all rfl))))) | walk1)) | (leave1; (try dsimp only)) | fail "no step")
  rotate_left 3
  · rename News _ _ _ _ => N9
    replace N9 := News_sub N9 fun q hq => List.Mem.tail _ hq
    rename _ ∨ _ => hn'
    rcases hn' with ⟨hn0, hu⟩ | ⟨hn1, _⟩
    case inr => exfalso; lia
    have hr1 := u32P_range hb hu
    repeat' (first | (k_unfold; (try dsimp only)) | (k_end; wrow_close) | ((fail_if_success fail_if_success with_reducible show wpAny _ _ (call (Value.ref _) _ _) _ _ _); ((k_dflt (refine' w_lname ?a ?F ?N ?m ?U ?d ?hb ?h0 ?hie ?he ?hz ?r ?_ ?_ rfl; (case a => assumption); (case F => assumption); (case N => assumption); (case m => k_mem); (case U => k_updF); (case d => assumption); (case hb => assumption); (case h0 => first | assumption | lia); (case hie => first | assumption | lia); (case he => first | assumption | lia); (case hz => assumption); (case r => exact Rm.le (by assumption) (by decide)); (intro cs' j' hu' hj0' hj1' hj2' h' tk' t' o' tj' hd' F' N'; (try dsimp only at N')); rotate_left; (intro hu' h' tk' o' j' tj' hj0' hj1' hd' F' N'; (try dsimp only at N')); rotate_left)))) | ((fail_if_success fail_if_success with_reducible show wpAny _ _ (setItem (Value.ref _) (Value.str _ _) _) _ _ _); ((with_reducible show wpAny _ _ (setItem (Value.ref _) (Value.str (PySem.Str.ofString "end") _) (Value.int _ _)) _ _ _); (k_dflt (refine' st_set_end ?F ?N ?U ?d ?_; (case F => assumption); (case N => assumption); (case U => k_updF); (case d => assumption))); intro h' o' F' N' hd'; (try dsimp only at N'))) | ((fail_if_success fail_if_success with_reducible show wpAny _ _ (setItem (Value.ref _) (Value.str _ _) _) _ _ _); ((with_reducible show wpAny _ _ (setItem (Value.ref _) (Value.str (PySem.Str.ofString "at") _) (Value.int _ _)) _ _ _); (k_dflt (refine' st_set_at ?F ?N ?U ?d ?_; (case F => assumption); (case N => assumption); (case U => k_updF); (case d => assumption))); intro h' o' F' N' hd'; (try dsimp only at N'))) | ((fail_if_success fail_if_success with_reducible show wpAny _ _ (subscriptTail _ _ _ _) _ _ _); ((with_reducible show wpAny _ _ (subscriptTail _ _ (Value.ref _) (Value.str (PySem.Str.ofString "end") _)) _ _ _); (k_dflt (refine st_end (by assumption) (by k_mem) (by assumption) ?_ (by with_unfolding_all rfl) (by intro _; with_unfolding_all rfl))))) | ((fail_if_success fail_if_success with_reducible show wpAny _ _ (subscriptTail _ _ _ _) _ _ _); ((with_reducible show wpAny _ _ (subscriptTail _ _ (Value.ref _) (Value.str (PySem.Str.ofString "at") _)) _ _ _); (k_dflt (refine st_at (by assumption) (by k_mem) (by assumption) ?_ (by with_unfolding_all rfl) (by intro _; with_unfolding_all rfl))))) | walk1 | (dsimp only; (first | ((fail_if_success fail_if_success with_reducible show wpAny _ _ (call (Value.ref _) _ _) _ _ _); ((k_dflt (refine' w_lname ?a ?F ?N ?m ?U ?d ?hb ?h0 ?hie ?he ?hz ?r ?_ ?_ rfl; (case a => assumption); (case F => assumption); (case N => assumption); (case m => k_mem); (case U => k_updF); (case d => assumption); (case hb => assumption); (case h0 => first | assumption | lia); (case hie => first | assumption | lia); (case he => first | assumption | lia); (case hz => assumption); (case r => exact Rm.le (by assumption) (by decide)); (intro cs' j' hu' hj0' hj1' hj2' h' tk' t' o' tj' hd' F' N'; (try dsimp only at N')); rotate_left; (intro hu' h' tk' o' j' tj' hj0' hj1' hd' F' N'; (try dsimp only at N')); rotate_left)))) | ((fail_if_success fail_if_success with_reducible show wpAny _ _ (setItem (Value.ref _) (Value.str _ _) _) _ _ _); ((with_reducible show wpAny _ _ (setItem (Value.ref _) (Value.str (PySem.Str.ofString "end") _) (Value.int _ _)) _ _ _); (k_dflt (refine' st_set_end ?F ?N ?U ?d ?_; (case F => assumption); (case N => assumption); (case U => k_updF); (case d => assumption))); intro h' o' F' N' hd'; (try dsimp only at N'))) | ((fail_if_success fail_if_success with_reducible show wpAny _ _ (setItem (Value.ref _) (Value.str _ _) _) _ _ _); ((with_reducible show wpAny _ _ (setItem (Value.ref _) (Value.str (PySem.Str.ofString "at") _) (Value.int _ _)) _ _ _); (k_dflt (refine' st_set_at ?F ?N ?U ?d ?_; (case F => assumption); (case N => assumption); (case U => k_updF); (case d => assumption))); intro h' o' F' N' hd'; (try dsimp only at N'))) | ((fail_if_success fail_if_success with_reducible show wpAny _ _ (subscriptTail _ _ _ _) _ _ _); ((with_reducible show wpAny _ _ (subscriptTail _ _ (Value.ref _) (Value.str (PySem.Str.ofString "end") _)) _ _ _); (k_dflt (refine st_end (by assumption) (by k_mem) (by assumption) ?_ (by with_unfolding_all rfl) (by intro _; with_unfolding_all rfl))))) | ((fail_if_success fail_if_success with_reducible show wpAny _ _ (subscriptTail _ _ _ _) _ _ _); ((with_reducible show wpAny _ _ (subscriptTail _ _ (Value.ref _) (Value.str (PySem.Str.ofString "at") _)) _ _ _); (k_dflt (refine st_at (by assumption) (by k_mem) (by assumption) ?_ (by with_unfolding_all rfl) (by intro _; with_unfolding_all rfl))))) | walk1)) | (leave1; (try dsimp only)) | fail "no step")
    · rename ks.getD _ _ = 0 => hs0
      rename nameP _ _ _ = some _ => hname
      have hrd := (congrArg (fun z => readP ks _ _ z st) hs0).trans (readP_0s hname)
      have e1 := sectP_bad (k := k) (st := st) (last := last) (by lia) (by assumption) hu (by lia) (by rw [hrd]; exact decide_eq_false (by lia))
      rw [hrd] at e1
      exact hfin _ _ (by lia) _ _ _ _ _ _ _ _ _ _ _ (hw.trans e1) ⟨⟨_, rfl⟩, htl.f, htl.r⟩ o2 o3 (by assumption) (by assumption) (by assumption) _
    · rename ks.getD _ _ = 0 => hs0
      rename nameP _ _ _ = some _ => hname
      rename StD _ _ _ _ _ _ _ _ => hdn
      rename _ = _ + _ => hj
      rw [hj] at hdn
      rename Fr _ _ _ _ => F4
      rename News _ _ _ _ => N4
      have hrd := (congrArg (fun z => readP ks _ _ z st) hs0).trans (readP_0s hname)
      have e1 := sectP_ok (k := k) (st := st) (last := last) (by lia) (by assumption) hu (by lia) (by rw [hrd]; exact decide_eq_true (by lia))
      rw [hrd] at e1
      refine wnext F4 N4 (Nat.lt_succ_self _) ⟨_, _, _, _, _, _, _, _, inn, _, _, _, hw.trans e1, ?_, ?_, ?_, ⟨⟨_, rfl⟩, htl.f, htl.r⟩, fun h => ?_, fun _ => hfs (by lia), fun _ => hrs (by lia), o1, o2, o3, hdn, ⟨rfl, rfl, rfl, rfl, rfl, rfl, trivial⟩, rfl⟩
      · lia
      · lia
      · lia
      · exfalso; lia
    · rename ks.getD _ _ = 0 => hs0
      rename nameP _ _ _ = none => hname
      have hrd := (congrArg (fun z => readP ks _ _ z st) hs0).trans (readP_0n hname)
      have e1 := sectP_bad (k := k) (st := st) (last := last) (by lia) (by assumption) hu (by lia) (by rw [hrd])
      rw [hrd] at e1
      exact hfin _ _ (by lia) _ _ _ _ _ _ _ _ _ _ _ (hw.trans e1) ⟨by rw [hmo (by lia)]; rfl, htl.f, htl.r⟩ o2 o3 (by assumption) (by assumption) (by assumption) _
    · have hs1 : ks.getD i.toNat 0 = 1 := by assumption
      have hfs0 := hfs (by lia)
      have htl2 := htl.f
      rw [hfs0] at htl2
      obtain ⟨kf, hdf, hkf⟩ := htl2
      obtain rfl := hkf.nil_inv
      repeat' (first | (k_unfold; (try dsimp only)) | (k_end; wrow_close) | ((fail_if_success fail_if_success with_reducible show wpAny _ _ (call (Value.ref _) _ _) _ _ _); ((k_dflt (refine' w_lnames ?a ?F ?N ?m1 ?m2 ?U ?ne ?d ?f ?hb ?h0 ?hie ?he ?hz ?r ?_ ?_ rfl; (case a => assumption); (case F => assumption); (case N => assumption); (case m1 => k_mem); (case m2 => k_mem); (case U => exact fun _ _ => Puts.cons (by k_upd) (Puts.cons (by k_upd) Puts.nil)); (case ne => first | assumption | lia); (case d => assumption); (case f => assumption); (case hb => assumption); (case h0 => first | assumption | lia); (case hie => first | assumption | lia); (case he => first | assumption | lia); (case hz => assumption); (case r => exact Rm.le (by assumption) (by decide)); (intro j' hu' hj0' hj1' hj2' h' tk' of' kv' o' tj' hf' hk' hd' F' N'; (try dsimp only at N')); rotate_left; (intro hu' h' tk' of' kv' o' j' tj' hf' hk' hj0' hj1' hd' F' N'; (try dsimp only at N')); rotate_left)))) | ((fail_if_success fail_if_success with_reducible show wpAny _ _ (subscriptTail _ _ _ _) _ _ _); ((with_reducible show wpAny _ _ (subscriptTail _ _ (Value.ref _) (Value.str (PySem.Str.ofString "end") _)) _ _ _); (k_dflt (refine st_end (by assumption) (by k_mem) (by assumption) ?_ (by with_unfolding_all rfl) (by intro _; with_unfolding_all rfl))))) | ((fail_if_success fail_if_success with_reducible show wpAny _ _ (subscriptTail _ _ _ _) _ _ _); ((with_reducible show wpAny _ _ (subscriptTail _ _ (Value.ref _) (Value.str (PySem.Str.ofString "at") _)) _ _ _); (k_dflt (refine st_at (by assumption) (by k_mem) (by assumption) ?_ (by with_unfolding_all rfl) (by intro _; with_unfolding_all rfl))))) | walk1 | (dsimp only; (first | ((fail_if_success fail_if_success with_reducible show wpAny _ _ (call (Value.ref _) _ _) _ _ _); ((k_dflt (refine' w_lnames ?a ?F ?N ?m1 ?m2 ?U ?ne ?d ?f ?hb ?h0 ?hie ?he ?hz ?r ?_ ?_ rfl; (case a => assumption); (case F => assumption); (case N => assumption); (case m1 => k_mem); (case m2 => k_mem); (case U => exact fun _ _ => Puts.cons (by k_upd) (Puts.cons (by k_upd) Puts.nil)); (case ne => first | assumption | lia); (case d => assumption); (case f => assumption); (case hb => assumption); (case h0 => first | assumption | lia); (case hie => first | assumption | lia); (case he => first | assumption | lia); (case hz => assumption); (case r => exact Rm.le (by assumption) (by decide)); (intro j' hu' hj0' hj1' hj2' h' tk' of' kv' o' tj' hf' hk' hd' F' N'; (try dsimp only at N')); rotate_left; (intro hu' h' tk' of' kv' o' j' tj' hf' hk' hj0' hj1' hd' F' N'; (try dsimp only at N')); rotate_left)))) | ((fail_if_success fail_if_success with_reducible show wpAny _ _ (subscriptTail _ _ _ _) _ _ _); ((with_reducible show wpAny _ _ (subscriptTail _ _ (Value.ref _) (Value.str (PySem.Str.ofString "end") _)) _ _ _); (k_dflt (refine st_end (by assumption) (by k_mem) (by assumption) ?_ (by with_unfolding_all rfl) (by intro _; with_unfolding_all rfl))))) | ((fail_if_success fail_if_success with_reducible show wpAny _ _ (subscriptTail _ _ _ _) _ _ _); ((with_reducible show wpAny _ _ (subscriptTail _ _ (Value.ref _) (Value.str (PySem.Str.ofString "at") _)) _ _ _); (k_dflt (refine st_at (by assumption) (by k_mem) (by assumption) ?_ (by with_unfolding_all rfl) (by intro _; with_unfolding_all rfl))))) | walk1)) | (leave1; (try dsimp only)) | fail "no step")
      · rename ks.getD _ _ = 1 => hs0
        rename (mapsP _ _ _).2 = some _ => hmap
        rename KvS _ (mapsP _ _ _).1 => hkv
        rename Obj.IsDictOf (PySem.intKind _ _) _ _ => hdc
        have hrd := (congrArg (fun z => readP ks _ _ z st) hs0).trans (readP_1s hmap)
        have e1 := sectP_bad (k := k) (st := st) (last := last) (by lia) (by assumption) hu (by lia) (by rw [hrd]; exact decide_eq_false (by lia))
        rw [hrd] at e1
        exact hfin _ _ (by lia) _ _ _ _ _ _ _ _ _ _ _ (hw.trans e1) ⟨htl.m, ⟨_, hdc, hkv⟩, htl.r⟩ o2 o3 (by assumption) (by assumption) (by assumption) _
      · rename ks.getD _ _ = 1 => hs0
        rename (mapsP _ _ _).2 = some _ => hmap
        rename KvS _ (mapsP _ _ _).1 => hkv
        rename Obj.IsDictOf (PySem.intKind _ _) _ _ => hdc
        rename StD _ _ _ _ _ _ _ _ => hdn
        rename _ = _ + _ => hj
        rw [hj] at hdn
        rename Fr _ _ _ _ => F4
        rename News _ _ _ _ => N4
        have hrd := (congrArg (fun z => readP ks _ _ z st) hs0).trans (readP_1s hmap)
        have e1 := sectP_ok (k := k) (st := st) (last := last) (by lia) (by assumption) hu (by lia) (by rw [hrd]; exact decide_eq_true (by lia))
        rw [hrd] at e1
        refine wnext F4 N4 (Nat.lt_succ_self _) ⟨_, _, _, _, _, _, _, _, inn, _, _, _, hw.trans e1, ?_, ?_, ?_, ⟨htl.m, ⟨_, hdc, hkv⟩, htl.r⟩, fun h => ?_, fun h => absurd h (by lia), fun _ => hrs (by lia), o1, o2, o3, hdn, ⟨rfl, rfl, rfl, rfl, rfl, rfl, trivial⟩, rfl⟩
        · lia
        · lia
        · lia
        · exfalso; lia
      · rename ks.getD _ _ = 1 => hs0
        rename (mapsP _ _ _).2 = none => hmap
        rename KvS _ (mapsP _ _ _).1 => hkv
        rename Obj.IsDictOf (PySem.intKind _ _) _ _ => hdc
        have hrd := (congrArg (fun z => readP ks _ _ z st) hs0).trans (readP_1n hmap)
        have e1 := sectP_bad (k := k) (st := st) (last := last) (by lia) (by assumption) hu (by lia) (by rw [hrd])
        rw [hrd] at e1
        exact hfin _ _ (by lia) _ _ _ _ _ _ _ _ _ _ _ (hw.trans e1) ⟨htl.m, ⟨_, hdc, hkv⟩, htl.r⟩ o2 o3 (by assumption) (by assumption) (by assumption) _
    · have hs1 : ks.getD i.toNat 0 = 2 := by assumption
      have hrs0 := hrs (by lia)
      have htl2 := htl.r
      rw [hrs0] at htl2
      obtain ⟨kl, hdl, hkl⟩ := htl2
      obtain ⟨rfl, rfl⟩ := hkl.nil_inv
      repeat' (first | (k_unfold; (try dsimp only)) | (k_end; wrow_close) | ((fail_if_success fail_if_success with_reducible show wpAny _ _ (call (Value.ref _) _ _) _ _ _); ((k_dflt (refine' w_lrows ?a ?F ?N ?m1 ?m2 ?U ?ne ?d ?f ?hb ?h0 ?hie ?he ?hz ?r ?_ ?_ rfl; (case a => assumption); (case F => assumption); (case N => assumption); (case m1 => k_mem); (case m2 => k_mem); (case U => exact fun _ _ => Puts.cons (by k_upd) (Puts.cons (by k_upd) Puts.nil)); (case ne => first | assumption | lia); (case d => assumption); (case f => assumption); (case hb => assumption); (case h0 => first | assumption | lia); (case hie => first | assumption | lia); (case he => first | assumption | lia); (case hz => assumption); (case r => exact Rm.le (by assumption) (by decide)); (intro j' hu' hj0' hj1' hj2' h' tk' of' kv' inn' o' tj' hf' hk' hof' hd' F' N'; (try dsimp only at N')); rotate_left; (intro hu' h' tk' of' kv' inn' o' j' tj' hf' hk' hof' hj0' hj1' hd' F' N'; (try dsimp only at N')); rotate_left)))) | ((fail_if_success fail_if_success with_reducible show wpAny _ _ (subscriptTail _ _ _ _) _ _ _); ((with_reducible show wpAny _ _ (subscriptTail _ _ (Value.ref _) (Value.str (PySem.Str.ofString "end") _)) _ _ _); (k_dflt (refine st_end (by assumption) (by k_mem) (by assumption) ?_ (by with_unfolding_all rfl) (by intro _; with_unfolding_all rfl))))) | ((fail_if_success fail_if_success with_reducible show wpAny _ _ (subscriptTail _ _ _ _) _ _ _); ((with_reducible show wpAny _ _ (subscriptTail _ _ (Value.ref _) (Value.str (PySem.Str.ofString "at") _)) _ _ _); (k_dflt (refine st_at (by assumption) (by k_mem) (by assumption) ?_ (by with_unfolding_all rfl) (by intro _; with_unfolding_all rfl))))) | walk1 | (dsimp only; (first | ((fail_if_success fail_if_success with_reducible show wpAny _ _ (call (Value.ref _) _ _) _ _ _); ((k_dflt (refine' w_lrows ?a ?F ?N ?m1 ?m2 ?U ?ne ?d ?f ?hb ?h0 ?hie ?he ?hz ?r ?_ ?_ rfl; (case a => assumption); (case F => assumption); (case N => assumption); (case m1 => k_mem); (case m2 => k_mem); (case U => exact fun _ _ => Puts.cons (by k_upd) (Puts.cons (by k_upd) Puts.nil)); (case ne => first | assumption | lia); (case d => assumption); (case f => assumption); (case hb => assumption); (case h0 => first | assumption | lia); (case hie => first | assumption | lia); (case he => first | assumption | lia); (case hz => assumption); (case r => exact Rm.le (by assumption) (by decide)); (intro j' hu' hj0' hj1' hj2' h' tk' of' kv' inn' o' tj' hf' hk' hof' hd' F' N'; (try dsimp only at N')); rotate_left; (intro hu' h' tk' of' kv' inn' o' j' tj' hf' hk' hof' hj0' hj1' hd' F' N'; (try dsimp only at N')); rotate_left)))) | ((fail_if_success fail_if_success with_reducible show wpAny _ _ (subscriptTail _ _ _ _) _ _ _); ((with_reducible show wpAny _ _ (subscriptTail _ _ (Value.ref _) (Value.str (PySem.Str.ofString "end") _)) _ _ _); (k_dflt (refine st_end (by assumption) (by k_mem) (by assumption) ?_ (by with_unfolding_all rfl) (by intro _; with_unfolding_all rfl))))) | ((fail_if_success fail_if_success with_reducible show wpAny _ _ (subscriptTail _ _ _ _) _ _ _); ((with_reducible show wpAny _ _ (subscriptTail _ _ (Value.ref _) (Value.str (PySem.Str.ofString "at") _)) _ _ _); (k_dflt (refine st_at (by assumption) (by k_mem) (by assumption) ?_ (by with_unfolding_all rfl) (by intro _; with_unfolding_all rfl))))) | walk1)) | (leave1; (try dsimp only)) | fail "no step")
      · rename ks.getD _ _ = 2 => hs0
        rename (rowsP _ _ _).2 = some _ => hmap
        rename RowS _ _ _ (rowsP _ _ _).1 => hkv
        rename Obj.IsDictOf (PySem.intKind _ _) _ _ => hdc
        rename ∀ (q : Addr × Obj), q ∈ _ → Off _ q.1 => hof
        have hrd := (congrArg (fun z => readP ks _ _ z st) hs0).trans (readP_2s hmap)
        have e1 := sectP_bad (k := k) (st := st) (last := last) (by lia) (by assumption) hu (by lia) (by rw [hrd]; exact decide_eq_false (by lia))
        rw [hrd] at e1
        exact hfin _ _ (by lia) _ _ _ _ _ _ _ _ _ _ _ (hw.trans e1) ⟨htl.m, htl.f, ⟨_, hdc, hkv⟩⟩ (hof _ (.tail _ (.head _))) (hof _ (.tail _ (.tail _ (.head _)))) (by assumption) (by assumption) (by assumption) _
      · rename ks.getD _ _ = 2 => hs0
        rename (rowsP _ _ _).2 = some _ => hmap
        rename RowS _ _ _ (rowsP _ _ _).1 => hkv
        rename Obj.IsDictOf (PySem.intKind _ _) _ _ => hdc
        rename ∀ (q : Addr × Obj), q ∈ _ → Off _ q.1 => hof
        rename StD _ _ _ _ _ _ _ _ => hdn
        rename _ = _ + _ => hj
        rw [hj] at hdn
        rename Fr _ _ _ _ => F4
        rename News _ _ _ _ => N4
        have hrd := (congrArg (fun z => readP ks _ _ z st) hs0).trans (readP_2s hmap)
        have e1 := sectP_ok (k := k) (st := st) (last := last) (by lia) (by assumption) hu (by lia) (by rw [hrd]; exact decide_eq_true (by lia))
        rw [hrd] at e1
        refine wnext F4 N4 (Nat.lt_succ_self _) ⟨_, _, _, _, _, _, _, _, _, _, _, _, hw.trans e1, ?_, ?_, ?_, ⟨htl.m, htl.f, ⟨_, hdc, hkv⟩⟩, fun h => ?_, fun h => absurd h (by lia), fun h => absurd h (by lia), hof _ (.head _), hof _ (.tail _ (.head _)), hof _ (.tail _ (.tail _ (.head _))), hdn, ⟨rfl, rfl, rfl, rfl, rfl, rfl, trivial⟩, rfl⟩
        · lia
        · lia
        · lia
        · exfalso; lia
      · rename ks.getD _ _ = 2 => hs0
        rename (rowsP _ _ _).2 = none => hmap
        rename RowS _ _ _ (rowsP _ _ _).1 => hkv
        rename Obj.IsDictOf (PySem.intKind _ _) _ _ => hdc
        rename ∀ (q : Addr × Obj), q ∈ _ → Off _ q.1 => hof
        have hrd := (congrArg (fun z => readP ks _ _ z st) hs0).trans (readP_2n hmap)
        have e1 := sectP_bad (k := k) (st := st) (last := last) (by lia) (by assumption) hu (by lia) (by rw [hrd])
        rw [hrd] at e1
        exact hfin _ _ (by lia) _ _ _ _ _ _ _ _ _ _ _ (hw.trans e1) ⟨htl.m, htl.f, ⟨_, hdc, hkv⟩⟩ (hof _ (.tail _ (.head _))) (hof _ (.tail _ (.tail _ (.head _)))) (by assumption) (by assumption) (by assumption) _
    · exact absurd rfl ‹_ + _ ≠ _ + _›
    · rename StD _ _ _ _ _ _ _ _ => hdn
      rename Fr _ _ _ _ => F4
      rename News _ _ _ _ => N4
      have e1 := sectP_ok (k := k) (st := st) (last := last) (by lia) (by assumption) hu (by lia) (by rw [readP_3 (by assumption) (by assumption) (by assumption)])
      rw [readP_3 (by assumption) (by assumption) (by assumption)] at e1
      refine wnext F4 N4 (Nat.lt_succ_self _) ⟨_, _, _, _, _, _, _, _, inn, _, _, _, hw.trans e1, ?_, ?_, ?_, htl, fun h => ?_, fun _ => hfs (by lia), fun _ => hrs (by lia), o1, o2, o3, hdn, ⟨rfl, rfl, rfl, rfl, rfl, rfl, trivial⟩, rfl⟩
      · lia
      · lia
      · lia
      · exact hmo (by lia)
  · obtain rfl := Int.le_antisymm hi1 (by lia)
    exact hfin _ _ (by lia) _ _ _ _ _ _ _ _ _ _ _ (hw.trans (sectP_done (Int.le_refl _))) htl o2 o3 (by assumption) (by assumption) (by assumption) _
  · exact hfin _ _ (by lia) _ _ _ _ _ _ _ _ _ _ _ (hw.trans (sectP_low (by lia) (by assumption))) htl o2 o3 (by assumption) (by assumption) (by assumption) _
  · rename _ ∨ _ => hn'
    rcases hn' with ⟨hn0, hu⟩ | ⟨hn1, hu⟩
    · exfalso; lia
    · exact hfin _ _ (by lia) _ _ _ _ _ _ _ _ _ _ _ (hw.trans (sectP_u (by lia) (by assumption) hu)) htl o2 o3 (by assumption) (by assumption) (by assumption) _
  · rename _ ∨ _ => hn'
    rcases hn' with ⟨hn0, hu⟩ | ⟨hn1, hu⟩
    · exact hfin _ _ (by lia) _ _ _ _ _ _ _ _ _ _ _ (hw.trans (sectP_over (by lia) (by assumption) hu (by assumption))) htl o2 o3 (by assumption) (by assumption) (by assumption) _
    · exfalso; lia
end
-- Na
theorem view_imp : importsNone view = true := by decide +kernel
theorem no_mod {mean : ExcName → Option Value} {mg mb : PySem.Str → Option Value} {g h : Heap} {L : Addr} {news : List (Addr × Obj)} (T : Top view loose mean mg mb g) (N : News g L h news) {p : Addr × Obj} (hp : p ∈ news) : (p.1 == sysModules) = false := by
  obtain ⟨mm, ⟨o, es, ep, ho, _⟩, _⟩ := (T.seer view_imp).mods
  refine beq_eq_false_iff_ne.mpr fun e => ?_
  have := (N p hp).2.2
  rw [e, ho] at this
  cases this
/-! ### a name's signs -/
noncomputable def okT (cs : List Int) : Prop := cs.length ≤ 1000 ∧ ∀ c ∈ cs, c ≤ 1114111
theorem utf8P_ok {ks : List Int} : ∀ {n : Nat} {i : Int} {cs : List Int}, utf8P ks n i = some cs → cs.length ≤ n ∧ ∀ c ∈ cs, c ≤ 1114111
  | 0, i, cs, h => by
    unfold utf8P at h
    split at h
    · cases h
    · cases h; exact ⟨Nat.le_refl _, fun _ h => nomatch h⟩
  | n + 1, i, cs, h => by
    unfold utf8P at h
    split at h
    · cases hs : stepP ks i with
      | none => rw [hs] at h; cases h
      | some r =>
        rw [hs] at h
        have hr : r.1 ≤ 1114111 := by
          unfold stepP at hs
          cases hh : headP (ks.getD i.toNat 0) with
          | none => rw [hh] at hs; cases hs
          | some x =>
            rw [hh] at hs
            simp only [Option.bind_some] at hs
            split at hs
            · cases hs
            · cases hc : contP ((ks.drop (i + 1).toNat).take x.1.toNat) x.2.1 with
              | none => rw [hc] at hs; cases hs
              | some q =>
                rw [hc] at hs
                simp only [Option.bind_some] at hs
                split at hs
                · cases hs
                · rename_i hq
                  cases hs
                  clear hc hh h
                  lia
        simp only [Option.bind_some] at h
        cases hu : utf8P ks n r.2 with
        | none => rw [hu] at h; cases h
        | some l =>
          rw [hu] at h
          cases h
          obtain ⟨h1, h2⟩ := utf8P_ok hu
          exact ⟨Nat.succ_le_succ h1, fun c hc => (List.mem_cons.mp hc).elim (fun e => e ▸ hr) (h2 c)⟩
    · cases h; exact ⟨Nat.zero_le _, fun _ h => nomatch h⟩
theorem nameP_okT {ks : List Int} {e i j : Int} {cs : List Int} (hz : ks.length ≤ 1000) (h : nameP ks e i = some (cs, j)) : okT cs := by
  unfold nameP at h
  cases hu : u32P ks e i with
  | none => rw [hu] at h; cases h
  | some r =>
    rw [hu] at h
    simp only [Option.bind_some] at h
    split at h
    · cases h
    · cases hv : utf8P ((ks.drop r.2.toNat).take r.1.toNat) ((ks.drop r.2.toNat).take r.1.toNat).length 0 with
      | none => rw [hv] at h; cases h
      | some l =>
        rw [hv] at h
        cases h
        obtain ⟨h1, h2⟩ := utf8P_ok hv
        refine ⟨Nat.le_trans h1 ?_, h2⟩
        rw [List.length_take, List.length_drop]
        exact Nat.le_trans (Nat.min_le_right _ _) (Nat.le_trans (Nat.sub_le _ _) hz)
noncomputable def okM : Option (List Int) → Prop
  | none => True
  | some cs => okT cs
section
variable {ks : List Int} {bs : Array UInt8} (hb : KBw.bInts bs = ks)
include hb
theorem mapP_len {e : Int} : ∀ {n : Nat} {last i : Int}, (mapP ks e n last i).1.length ≤ (e - i).toNat := fun {n} => by
  induction n with
  | zero => intro last i; exact Nat.zero_le _
  | succ n ih =>
    intro last i
    unfold mapP
    cases hu : u32P ks e i with
    | none => exact Nat.zero_le _
    | some r =>
      obtain ⟨x, j⟩ := r
      have h1 := u32P_range hb hu
      dsimp only
      split
      · exact Nat.zero_le _
      · cases hn : nameP ks e j with
        | none => exact Nat.zero_le _
        | some r =>
          obtain ⟨cs, k⟩ := r
          have h2 := nameP_range hb hn
          have h3 := ih (last := x) (i := k)
          dsimp only
          rw [List.length_cons]
          lia
theorem mapsP_len {e i : Int} (h0 : 0 ≤ i) (he : e ≤ 1000) : (mapsP ks e i).1.length ≤ 1000 := by
  unfold mapsP
  cases hu : u32P ks e i with
  | none => exact Nat.zero_le _
  | some r =>
    obtain ⟨x, j⟩ := r
    have h1 := u32P_range hb hu
    have h2 := mapP_len hb (e := e) (n := x.toNat) (last := -1) (i := j)
    dsimp only
    lia
theorem rowP_len {e : Int} (he : e ≤ 1000) : ∀ {n : Nat} {last i : Int}, 0 ≤ i → (rowP ks e n last i).1.length ≤ (e - i).toNat ∧ ∀ p ∈ (rowP ks e n last i).1, p.2.length ≤ 1000 := fun {n} => by
  induction n with
  | zero => intro last i _; exact ⟨Nat.zero_le _, fun _ h => nomatch h⟩
  | succ n ih =>
    intro last i h0
    unfold rowP
    cases hu : u32P ks e i with
    | none => exact ⟨Nat.zero_le _, fun _ h => nomatch h⟩
    | some r =>
      obtain ⟨x, j⟩ := r
      have h1 := u32P_range hb hu
      dsimp only
      split
      · exact ⟨Nat.zero_le _, fun _ h => nomatch h⟩
      · have h3 := mapsP_len hb (e := e) (i := j) (by lia) he
        cases hn : (mapsP ks e j).2 with
        | none =>
          dsimp only
          refine ⟨?_, fun p hp => by rw [List.mem_singleton.mp hp]; exact h3⟩
          rw [List.length_singleton]
          lia
        | some k =>
          have h2 := mapsP_range hb hn
          have h4 := ih (last := x) (i := k) (by lia)
          dsimp only
          refine ⟨?_, fun p hp => (List.mem_cons.mp hp).elim (fun q => by rw [q]; exact h3) (h4.2 p)⟩
          rw [List.length_cons]
          lia
theorem rowsP_len {e i : Int} (h0 : 0 ≤ i) (he : e ≤ 1000) : (rowsP ks e i).1.length ≤ 1000 ∧ ∀ p ∈ (rowsP ks e i).1, p.2.length ≤ 1000 := by
  unfold rowsP
  cases hu : u32P ks e i with
  | none => exact ⟨Nat.zero_le _, fun _ h => nomatch h⟩
  | some r =>
    obtain ⟨x, j⟩ := r
    have h1 := u32P_range hb hu
    have h2 := rowP_len hb he (n := x.toNat) (last := -1) (i := j) (by lia)
    dsimp only
    exact ⟨by lia, h2.2⟩
structure okS (st : St) : Prop where
  m : okM st.mod
  f : st.fs.length ≤ 1000
  r : st.rs.length ≤ 1000
  rr : ∀ p ∈ st.rs, p.2.length ≤ 1000
theorem readP_ok {e i sort : Int} {st : St} (hz : ks.length ≤ 1000) (h0 : 0 ≤ i) (he : e ≤ 1000) (h : okS st) : okS (readP ks e i sort st).1 := by
  unfold readP
  split
  · cases hn : nameP ks e i with
    | none => exact h
    | some r => obtain ⟨cs, j⟩ := r; exact ⟨nameP_okT hz hn, h.f, h.r, h.rr⟩
  · split
    · exact ⟨h.m, mapsP_len hb h0 he, h.r, h.rr⟩
    · split
      · exact ⟨h.m, h.f, (rowsP_len hb h0 he).1, (rowsP_len hb h0 he).2⟩
      · exact h
theorem sectP_ok0 (hz : ks.length ≤ 1000) : ∀ {n : Nat} {last i : Int} {st : St}, 0 ≤ i → okS st → okS (sectP ks n last i st).1 := fun {n} => by
  induction n with
  | zero => intro _ _ _ _ h; exact h
  | succ n ih =>
    intro last i st h0 h
    unfold sectP
    split
    · exact h
    · split
      · exact h
      · cases hu : u32P ks ks.length (i + 1) with
        | none => exact h
        | some r =>
          obtain ⟨x, j⟩ := r
          have h1 := u32P_range hb hu
          dsimp only
          split
          · exact h
          · have h2 := readP_ok hb (e := j + x) (i := j) (sort := ks.getD i.toNat 0) hz (by lia) (by lia) h
            split
            · exact ih (by lia) h2
            · exact h2
theorem sectP_okS (hz : ks.length ≤ 1000) : okS (sectP ks (ks.length + 1) (-1) 0 ⟨none, [], []⟩).1 :=
  sectP_ok0 hb hz (Int.le_refl _) ⟨trivial, Nat.zero_le _, Nat.zero_le _, fun _ h => nomatch h⟩
end
/-! ### what is told, shown -/
noncomputable def modD : Option (List Int) → PyData
  | none => .none
  | some cs => .str (strOf cs)
theorem modD_reads {v : Value} {h : Heap} : ∀ {o : Option (List Int)}, ModV v o → Reads h v (modD o) []
  | none, e => by rw [show v = .none from e]; exact .none
  | some cs, e => by obtain ⟨t, rfl⟩ := e; exact .str _ t
theorem strOf_len (cs : List Int) : (strOf cs).length = cs.length := by
  show ((cs.map Int.toNat).toArray).size = _
  simp
theorem modD_len : ∀ {o : Option (List Int)}, okM o → (modD o).shown.length ≤ 10010
  | none, _ => by show PySem.Str.length _ ≤ _; decide +kernel
  | some cs, h => by
    have := StrLaws.reprText_len (strOf cs) (fun c hc => by
      have hc' : c ∈ cs.map Int.toNat := by simpa [strOf] using hc
      obtain ⟨d, hd, rfl⟩ := List.mem_map.mp hc'
      have := h.2 d hd
      have e : (16 : Nat) ^ 8 = 4294967296 := rfl
      lia)
    rw [strOf_len] at this
    exact Nat.le_trans this (Nat.le_trans (Nat.add_le_add_right (Nat.mul_le_mul_left 10 h.1) 2) (by decide))
theorem tup_len {o : Option (List Int)} {b : Bool} (h : okM o) : (PyData.tuple [modD o, .bool b]).shown.length ≤ sizeLine := by
  have h1 := modD_len h
  have h2 : (PyData.bool b).shown.length ≤ 5 := by cases b <;> (show PySem.Str.length _ ≤ _; decide +kernel)
  rw [sizeLine_eq]
  have h3 := tupleText_len_le [(modD o).shown, (PyData.bool b).shown]
  simp only [List.map_cons, List.map_nil, List.sum_cons, List.sum_nil, List.length_cons, List.length_nil] at h3
  show (tupleText [(modD o).shown, (PyData.bool b).shown]).length ≤ _
  lia
section
variable {w : World} {A : Around} {E Q : Value → Shared → Prop} {g hp : Heap} {gs : Array GenState} {dr : Drawn} {tk : Nat} {os : OsState} {L U : Addr} {m : PySem.Str → Option Value} {news : List (Addr × Obj)}
theorem repr_mod {mv : Value} {o : Option (List Int)} {b : Bool} (hg : A.guards = some []) (hr : Rm A 2) (F : Fr g L hp m) (N : News g L hp news) (hm : (U, { cls := .type "tuple", data := .seq #[mv, .bool b] }) ∈ news) (hv : ModV mv o) (hk : okM o)
    (h : ∀ h' t tk', Fr g L h' m → News g L h' news → Q (.str (PyData.tuple [modD o, .bool b]).shown t) ⟨h', gs, dr, tk', os⟩) :
    wpAny (MW w) A (call (.builtin "repr") [.ref U]) Q E ⟨hp, gs, dr, tk, os⟩ := by
  refine repr_of_reads' (h₀ := hp) (d := .tuple [modD o, .bool b]) (as := []) (.tuple (xs := [modD o, .bool b]) (N _ hm).1 rfl rfl (.cons (as := []) (modD_reads hv) (.cons (as := []) (.bool b) .nil))) ?_ ?_ hg ?_ (fun _ _ e => e)
    (fun h' u tk' hk' => h h' u tk' (F.keeps hk') (N.keepsAll hk')) (tup_len hk)
  · cases o <;> rfl
  · intro z; cases o <;> cases z
  · have : (PyData.tuple [modD o, .bool b]).depth = 1 := by cases o <;> rfl
    rw [this]
    unfold Rm at hr
    lia
theorem ne_same {x : PySem.Str} {t u : Tok} {s : Shared} (h : Q (.bool false) s) : wpAny (MW w) A (compareOp .NotEq (.str x t) (.str x u)) Q E s :=
  ne_str (by rw [bne_self_eq_false]; exact h)
end
/-! ### two dicts that tell the same -/
section
variable {w : World} {A : Around} {s : Shared} {full : List (Int × Value)}
theorem KvS.inv {k : Int} {cs : List Int} {r' : List (Int × List Int)} {kv : List (Int × Value)} (h : KvS kv ((k, cs) :: r')) : ∃ t r, kv = (k, .str (strOf cs) t) :: r ∧ KvS r r' := by
  cases h with
  | cons h => exact ⟨_, _, rfl, h⟩
theorem RowS.inv {k : Int} {x : List (Int × List Int)} {rr : List (Int × List (Int × List Int))} {kl : List (Int × Value)} {inn : List (Addr × Obj)} (h : RowS w kl inn ((k, x) :: rr)) :
    ∃ c oc kv r inn', kl = (k, .ref c) :: r ∧ inn = (c, oc) :: inn' ∧ oc.IsDictOf (PySem.intKind PySem.Challenge.pw_nm0124_01 w) kv ∧ KvS kv x ∧ RowS w r inn' rr := by
  cases h with
  | cons a b h => exact ⟨_, _, _, _, _, rfl, rfl, a, b, h⟩
theorem kvs_hits {cs : List (Int × List Int)} : ∀ {kv kv' : List (Int × Value)}, KvS kv cs → KvS kv' cs → (∀ p ∈ kv', valueAt full p.1 = some p.2) → KeqHits A s full kv true := by
  induction cs with
  | nil => intro kv kv' a _ _; rw [a.nil_inv]; exact .nil
  | cons x r ih =>
    obtain ⟨k, x⟩ := x
    intro kv kv' a b h
    obtain ⟨t0, q, rfl, a'⟩ := a.inv
    obtain ⟨t, q', rfl, b'⟩ := b.inv
    refine .hit (e := true) (h _ (.head _)) ?_ (ih a' b' fun p hp => h p (.tail _ hp))
    have := SeqAt.EqAt.str_str (A := A) (s := s) (strOf x) t0 (strOf x) t
    rwa [beq_self_eq_true] at this
theorem valueAt_mem {K : Type} [DecidableEq K] {kvs : List (K × Value)} (hn : (kvs.map (·.1)).Nodup) : ∀ p ∈ kvs, valueAt kvs p.1 = some p.2 := fun p hp => by
  obtain ⟨i, hi⟩ := List.mem_iff_getElem?.mp hp
  exact valueAt_of_get hn hi
theorem pairs_any {p p' : Program} {w w' : World} {es : List DictEntry} {kvs : List (Int × Value)} (h : Pairs (PySem.intKind p w) es kvs) : Pairs (PySem.intKind p' w') es kvs := by
  induction h with
  | nil => exact .nil
  | cons a b _ ih => exact .cons a b ih
theorem dict_any {p p' : Program} {w w' : World} {o : Obj} {kvs : List (Int × Value)} (h : o.IsDictOf (PySem.intKind p w) kvs) : o.IsDictOf (PySem.intKind p' w') kvs := by
  obtain ⟨es, ep, h1, h2, h3, h4, h5⟩ := h
  exact ⟨es, ep, h1, h2, h3, pairs_any h4, h5⟩
theorem dicts_eqAt {a b : Addr} {oa ob : Obj} {ka kb : List (Int × Value)} (ha : (a == sysModules) = false) (hb : (b == sysModules) = false) (ga : s.heap.get? a = some oa) (gb : s.heap.get? b = some ob)
    (da : oa.IsDictOf (PySem.intKind PySem.Challenge.pw_nm0124_01 w) ka) (db : ob.IsDictOf (PySem.intKind PySem.Challenge.pw_nm0124_01 w) kb) (hu : A.units < cLine) (hl : ka.length = kb.length) (hits : KeqHits A.in1 s kb ka true) :
    SeqAt.EqAt A s (.ref a) (.ref b) true := by
  by_cases hab : a = b
  · subst hab; exact SeqAt.EqAt.same _
  · refine SeqAt.EqAt.of_refs hab fun prog w' E Q hq => ?_
    have da' : oa.IsDictOf (PySem.intKind prog w') ka := dict_any da
    have db' : ob.IsDictOf (PySem.intKind prog w') kb := dict_any db
    exact keq_eq ha hb (Heap.dictOf_iff.mpr ⟨oa, ga, da'⟩) (Heap.dictOf_iff.mpr ⟨ob, gb, db'⟩) hu (fun _ => hits) (by rw [hl, beq_self_eq_true]; exact hq)
theorem names_eqAt {a b : Addr} {oa ob : Obj} {ka kb : List (Int × Value)} {cs : List (Int × List Int)} (ha : (a == sysModules) = false) (hb : (b == sysModules) = false) (ga : s.heap.get? a = some oa) (gb : s.heap.get? b = some ob)
    (da : oa.IsDictOf (PySem.intKind PySem.Challenge.pw_nm0124_01 w) ka) (db : ob.IsDictOf (PySem.intKind PySem.Challenge.pw_nm0124_01 w) kb) (hu : A.units < cLine) (va : KvS ka cs) (vb : KvS kb cs) :
    SeqAt.EqAt A s (.ref a) (.ref b) true := by
  obtain ⟨_, _, _, _, _, _, hn⟩ := id db
  exact dicts_eqAt ha hb ga gb da db hu (va.len.trans vb.len.symm) (kvs_hits va vb (valueAt_mem hn))
theorem rows_hits (hu : A.units < cLine) {rs : List (Int × List (Int × List Int))} : ∀ {kl kl' : List (Int × Value)} {inn inn' : List (Addr × Obj)}, RowS w kl inn rs → RowS w kl' inn' rs →
    (∀ p ∈ inn, s.heap.get? p.1 = some p.2 ∧ (p.1 == sysModules) = false) → (∀ p ∈ inn', s.heap.get? p.1 = some p.2 ∧ (p.1 == sysModules) = false) → (∀ p ∈ kl', valueAt full p.1 = some p.2) → KeqHits A s full kl true := by
  induction rs with
  | nil => intro kl kl' inn inn' a _ _ _ _; rw [a.nil_inv.1]; exact .nil
  | cons x r ih =>
    obtain ⟨k, x⟩ := x
    intro kl kl' inn inn' a b h1 h2 h
    obtain ⟨c, oc, kv, q, i1, rfl, rfl, a1, a2, a3⟩ := a.inv
    obtain ⟨c', oc', kv', q', i2, rfl, rfl, b1, b2, b3⟩ := b.inv
    refine .hit (e := true) (h _ (.head _)) ?_ (ih a3 b3 (fun p hp => h1 p (.tail _ hp)) (fun p hp => h2 p (.tail _ hp)) fun p hp => h p (.tail _ hp))
    exact names_eqAt (h1 _ (.head _)).2 (h2 _ (.head _)).2 (h1 _ (.head _)).1 (h2 _ (.head _)).1 a1 b1 hu a2 b2
theorem RowS.len {kl : List (Int × Value)} {inn : List (Addr × Obj)} {rs : List (Int × List (Int × List Int))} (h : RowS w kl inn rs) : kl.length = rs.length := by
  induction h with
  | nil => rfl
  | cons _ _ _ ih => rw [List.length_cons, List.length_cons, ih]
theorem rows_eqAt {a b : Addr} {oa ob : Obj} {ka kb : List (Int × Value)} {inn inn' : List (Addr × Obj)} {rs : List (Int × List (Int × List Int))} (ha : (a == sysModules) = false) (hb : (b == sysModules) = false) (ga : s.heap.get? a = some oa) (gb : s.heap.get? b = some ob)
    (da : oa.IsDictOf (PySem.intKind PySem.Challenge.pw_nm0124_01 w) ka) (db : ob.IsDictOf (PySem.intKind PySem.Challenge.pw_nm0124_01 w) kb) (hu : A.units + 1 < cLine) (va : RowS w ka inn rs) (vb : RowS w kb inn' rs)
    (h1 : ∀ p ∈ inn, s.heap.get? p.1 = some p.2 ∧ (p.1 == sysModules) = false) (h2 : ∀ p ∈ inn', s.heap.get? p.1 = some p.2 ∧ (p.1 == sysModules) = false) :
    SeqAt.EqAt A s (.ref a) (.ref b) true := by
  obtain ⟨_, _, _, _, _, _, hn⟩ := id db
  exact dicts_eqAt ha hb ga gb da db (Nat.lt_of_succ_lt hu) (va.len.trans vb.len.symm) (rows_hits (A := A.in1) hu va vb h1 h2 (valueAt_mem hn))
end
section
variable {w : World} {mean : ExcName → Option Value} {mg mb : PySem.Str → Option Value} {A : Around} {E Q : Value → Shared → Prop} {g : Heap} {s : Shared} {L a b : Addr} {oa ob : Obj} {news : List (Addr × Obj)}
theorem ne_names {ka kb : List (Int × Value)} {cs : List (Int × List Int)} (T : Top view loose mean mg mb g) (N : News g L s.heap news) (ma : (a, oa) ∈ news) (mb' : (b, ob) ∈ news)
    (da : oa.IsDictOf (PySem.intKind PySem.Challenge.pw_nm0124_01 w) ka) (db : ob.IsDictOf (PySem.intKind PySem.Challenge.pw_nm0124_01 w) kb) (hr : Rm A 2) (va : KvS ka cs) (vb : KvS kb cs) (h : Q (.bool false) s) :
    wpAny (MW w) A (compareOp .NotEq (.ref a) (.ref b)) Q E s := by
  have hu : A.units + 16 < cLine := hr.2
  obtain ⟨_, _, _, _, _, _, hn⟩ := id db
  have hl := va.len.trans vb.len.symm
  exact keq_ne (r := true) (no_mod T N ma) (no_mod T N mb') (Heap.dictOf_iff.mpr ⟨oa, (N _ ma).1, da⟩) (Heap.dictOf_iff.mpr ⟨ob, (N _ mb').1, db⟩) (by lia) (fun _ => kvs_hits va vb (valueAt_mem hn)) (by rw [hl, beq_self_eq_true]; exact h)
theorem ne_rows {ka kb : List (Int × Value)} {inn inn' : List (Addr × Obj)} {rs : List (Int × List (Int × List Int))} (T : Top view loose mean mg mb g) (N : News g L s.heap news) (ma : (a, oa) ∈ news) (mb' : (b, ob) ∈ news)
    (da : oa.IsDictOf (PySem.intKind PySem.Challenge.pw_nm0124_01 w) ka) (db : ob.IsDictOf (PySem.intKind PySem.Challenge.pw_nm0124_01 w) kb) (hr : Rm A 2) (va : RowS w ka inn rs) (vb : RowS w kb inn' rs) (h1 : ∀ p ∈ inn, p ∈ news) (h2 : ∀ p ∈ inn', p ∈ news) (h : Q (.bool false) s) :
    wpAny (MW w) A (compareOp .NotEq (.ref a) (.ref b)) Q E s := by
  have hu : A.units + 16 < cLine := hr.2
  obtain ⟨_, _, _, _, _, _, hn⟩ := id db
  have hl := va.len.trans vb.len.symm
  exact keq_ne (r := true) (no_mod T N ma) (no_mod T N mb') (Heap.dictOf_iff.mpr ⟨oa, (N _ ma).1, da⟩) (Heap.dictOf_iff.mpr ⟨ob, (N _ mb').1, db⟩) (by lia)
    (fun _ => rows_hits (A := A.in1) (by show A.units + 1 < _; lia) va vb (fun p hp => ⟨(N p (h1 p hp)).1, no_mod T N (h1 p hp)⟩) (fun p hp => ⟨(N p (h2 p hp)).1, no_mod T N (h2 p hp)⟩) (valueAt_mem hn)) (by rw [hl, beq_self_eq_true]; exact h)
end
-- Nb
/-- none of these has the address of one of those -/
noncomputable def Fresh (X Y : List (Addr × Obj)) : Prop := ∀ p ∈ X, ∀ q ∈ Y, p.1 ≠ q.1
/-- what a section tells -/
noncomputable def sec (ks : List Int) : St × Bool := sectP ks (ks.length + 1) (-1) 0 ⟨none, [], []⟩
section
variable {w : World} {mean : ExcName → Option Value} {mg mb : PySem.Str → Option Value} {A : Around} {base g hp : Heap} {outer : List Env} {gs : Array GenState} {dr : Drawn} {tk : Nat} {os : OsState} {Q E : Value → Shared → Prop}
  {bs : Array UInt8} {ks : List Int} {tb : Tok} {L f' : Addr} {m : PySem.Str → Option Value} {news : List (Addr × Obj)} {qual : PySem.Str} {scope : Scope} {cd : Value}
noncomputable abbrev toldD (w : World) (T : Addr) (mv : Value) (df dl : Addr) (b : Bool) (of ol : Obj) (inn : List (Addr × Obj)) : List (Addr × Obj) :=
  (T, { cls := .type "tuple", data := .seq #[mv, .ref df, .ref dl, .bool b] }) :: (df, of) :: (dl, ol) :: inn
noncomputable abbrev toldN (w : World) (y dy : Addr) (mv : Value) (df dl : Addr) (b : Bool) (u1 u2 u3 u4 : Tok) (of ol : Obj) (inn : List (Addr × Obj)) : List (Addr × Obj) :=
  (y, instObj 219 dy) :: (dy, namD w mv df dl b u1 u2 u3 u4) :: (df, of) :: (dl, ol) :: inn
theorem nin : ∀ p ∈ ([] : List (Addr × Obj)), p ∈ news := fun _ h => nomatch h
theorem w_lread (hb : KBw.bInts bs = ks) (hz : ks.length ≤ 1000) (a : Amb w mean mg mb A base outer g) (F : Fr g L hp m) (hr : Rm A 33)
    (hret : ∀ h' tk' T mv df dl of ol inn, Tells w (sec ks).1 mv of ol inn → Fr g L h' m →
      News g L h' (toldD w T mv df dl (sec ks).2 of ol inn) → Q (.ref T) ⟨h', gs, dr, tk', os⟩)
    (hk : scope.kind = .function) : wpAny (MW w) (A.deeper (envOf qual scope L f' cd)) (call (.ref 352) [.bytes bs tb]) Q E ⟨hp, gs, dr, tk, os⟩ := by
  have N : News g L hp [] := News.nil
  refine c_lread hb hz (siteA (s := ⟨hp, gs, dr, tk, os⟩) a F N nin hk) (siteO (s := ⟨hp, gs, dr, tk, os⟩) N nin) hr.deeper fun h' tk' T mv df dl of ol inn tl _ _ _ _ _ _ ov => ?_
  obtain ⟨F', N'⟩ := site_back (s := ⟨hp, gs, dr, tk, os⟩) F N nin ov (fun p hp => .inl hp)
  exact hret h' tk' T mv df dl of ol inn tl F' N'
theorem frs_dicts (D : KtsDicts (frs outer) g) (F : Fr g L hp m) : KtsDicts (frs (envOf qual scope L f' cd :: outer)) (gnd hp []) := by
  intro b hb
  rcases kts_mem hb with rfl | hb
  · obtain ⟨oL, es, ep, ho, hd, _⟩ := F.ns
    exact ⟨oL, _, _, hideAll_get _ ho (fun h => nomatch h), hd⟩
  · obtain ⟨o, es, n, ho, hd⟩ := D b hb
    exact ⟨o, es, n, hideAll_get _ (F.keep b o ho) (fun h => nomatch h), hd⟩
theorem w_sect (hb : KBw.bInts bs = ks) (hz : ks.length ≤ 1000) (a : Amb w mean mg mb A base outer g) (XB : (K w.params).In base) (TB : Top view loose mean mg mb base) (D : KtsDicts (frs outer) g) (F : Fr g L hp m) (N : News g L hp news) (hr : Rm A 41)
    (hret : ∀ h' tk' y dy df dl mv of ol inn u1 u2 u3 u4 g', KtsTurn (frs outer) g g' → Amb w mean mg mb A base outer g' → KtsDicts (frs outer) g' → Tells w (sec ks).1 mv of ol inn →
      @LT.lt Nat _ dy y → @LT.lt Nat _ y df → @LT.lt Nat _ df dl → Off inn y → Off inn dy → Off inn df → Off inn dl → Fr g' L h' m →
      Fresh (toldN w y dy mv df dl (sec ks).2 u1 u2 u3 u4 of ol inn) news →
      News g' L h' (toldN w y dy mv df dl (sec ks).2 u1 u2 u3 u4 of ol inn ++ news) → Q (.ref y) ⟨h', gs, dr, tk', os⟩)
    (hk : scope.kind = .function) : wpAny (MW w) (A.deeper (envOf qual scope L f' cd)) (call (.ref 251) [.bytes bs tb]) Q E ⟨hp, gs, dr, tk, os⟩ := by
  refine c_sect hb hz (siteA (s := ⟨hp, gs, dr, tk, os⟩) a F N nin hk) (siteO (s := ⟨hp, gs, dr, tk, os⟩) N nin) XB TB (frs_dicts D F) hr.deeper
    fun h' tk' y dy df dl mv of ol inn u1 u2 u3 u4 g1 t _ _ tl l1 l2 l3 o1 o2 o3 o4 ov => ?_
  obtain ⟨g', T', a', D', F', N'⟩ := turn_back (s := ⟨hp, gs, dr, tk, os⟩) a XB TB D F N t ov
  refine hret h' tk' y dy df dl mv of ol inn u1 u2 u3 u4 g' T' a' D' tl l1 l2 l3 o1 o2 o3 o4 F' (fun p hp q hq e => ?_) N'
  obtain ⟨sl, hs⟩ := t.up (hideAll_get _ (N q hq).1 (fun h => nomatch h))
  have := (ov.O p hp).2
  rw [e, hs] at this
  cases this
/-- dict.clear of a dict among others; where the same address stands twice, both are turned -/
theorem clear_any {c : Addr} {oc : Obj} {kv : List (Int × Value)} (F : Fr g L hp m) (N : News g L hp news) (hm : (c, oc) ∈ news) (hd : oc.IsDictOf (PySem.intKind PySem.Challenge.pw_nm0124_01 w) kv) (hl : kv.length ≤ 1000)
    (h : ∀ h' o', o'.IsDictOf (PySem.intKind PySem.Challenge.pw_nm0124_01 w) [] → Fr g L h' m → News g L h' (news.map fun q => if q.1 = c then (c, o') else q) → Q .none ⟨h', gs, dr, tk, os⟩) :
    wpAny (MW w) A (call (.builtin "dict.clear") [.ref c]) Q E ⟨hp, gs, dr, tk, os⟩ := by
  have hx := N _ hm
  have hD : hp.DictOf (PySem.intKind PySem.Challenge.pw_nm0124_01 w) c kv := Heap.dictOf_iff.mpr ⟨oc, hx.1, hd⟩
  refine call_meetsIn PySem.F.slot_dict_clear hD.typeIs PySem.F.entry_dict_clear (PySem.F.args_dict_clear_1 _) (meets_dict_clear _ c) ⟨kv, hD, by rw [sizeLine_eq]; exact Nat.le_trans hl (by decide), fun h' hmm hs => ?_⟩
  obtain ⟨o', ho', hd'⟩ := Heap.dictOf_iff.mp hmm
  refine h h' o' hd' (F.change hs hx.2.1 hx.2.2) fun p hp => ?_
  obtain ⟨q, hq, rfl⟩ := List.mem_map.mp hp
  by_cases e : q.1 = c
  · rw [if_pos e]; exact ⟨ho', hx.2⟩
  · rw [if_neg e]
    obtain ⟨q1, q2⟩ := N q hq
    exact ⟨(hs.2 q.1 e).trans q1, q2⟩
end
section
variable {prog : Program} {w : World} {A : Around} {E : Value → Shared → Prop} {s : Shared} {env : Env} {h₀ : Heap} {x : PySem.Str} {body : List Stmt} {Q : Flow → Shared → Prop} {I : Addr} {lp : Addr × Obj}
theorem listRest_ind (J : List Value → (PySem.Str → Option Value) → List (Addr × Obj) → Prop) (hl : ∀ l m n, J l m n → lp ∈ n)
    (h0 : ∀ m news, J [] m news → ∀ h tk, Fr h₀ env.locals h m → News h₀ env.locals h news → Q .next { s with heap := h, toks := tk })
    (h1 : ∀ c r m news, J (c :: r) m news → ∀ (it : Obj) h tk, Fr h₀ env.locals h (fun y => if y = x then some c else m y) → News h₀ env.locals h ((I, it) :: news) →
      wpAny (model prog w) A (execs body env) (UnrPost h₀ env.locals { s with heap := h, toks := tk } I it (J r) Q) E { s with heap := h, toks := tk }) :
    ∀ l m news, J l m news → ListRest prog w A E h₀ env x body Q s I lp l m news
  | [], m, news, j => h0 m news j
  | c :: r, m, news, j => fun it h tk _ F N =>
    wpAny_mono (h1 c r m news j it h tk F N) (fun _ _ z => unrPost_mono (fun m' n' j' => ⟨hl _ _ _ j', listRest_ind J hl h0 h1 r m' n' j'⟩) z) fun _ _ z => z
end
-- Nc
theorem told_ord {g h : Heap} {L : Addr} {p1 p2 p3 p4 q1 q2 q3 : Addr × Obj} {i1 i2 : List (Addr × Obj)} (N : News g L h (p1 :: p2 :: p3 :: p4 :: (i1 ++ q1 :: q2 :: q3 :: i2))) : News g L h (q1 :: q2 :: q3 :: p1 :: p2 :: p3 :: p4 :: (i1 ++ i2)) := News_sub N fun z hz => by
  simp only [List.mem_cons, List.mem_append] at hz ⊢
  rcases hz with h | h | h | h | h | h | h | h | h <;> simp [h]
section
variable {w : World} {mean : ExcName → Option Value} {mg mb : PySem.Str → Option Value} {A : Around} {E Q : Value → Shared → Prop} {g : Heap} {s : Shared} {L a b : Addr} {oa ob oc od : Obj} {news inn inn' : List (Addr × Obj)} {st : St} {v1 v2 : Value}
theorem ne_f (T : Top view loose mean mg mb g) (N : News g L s.heap news) (ma : (a, oa) ∈ news) (mb' : (b, ob) ∈ news) (hr : Rm A 2) (t1 : Tells w st v1 oa oc inn) (t2 : Tells w st v2 ob od inn') (h : Q (.bool false) s) :
    wpAny (MW w) A (compareOp .NotEq (.ref a) (.ref b)) Q E s := by
  obtain ⟨_, d1, k1⟩ := t1.f
  obtain ⟨_, d2, k2⟩ := t2.f
  exact ne_names T N ma mb' d1 d2 hr k1 k2 h
theorem ne_l (T : Top view loose mean mg mb g) (N : News g L s.heap news) (ma : (a, oa) ∈ news) (mb' : (b, ob) ∈ news) (hr : Rm A 2) (t1 : Tells w st v1 oc oa inn) (t2 : Tells w st v2 od ob inn') (h1 : ∀ p ∈ inn, p ∈ news) (h2 : ∀ p ∈ inn', p ∈ news) (h : Q (.bool false) s) :
    wpAny (MW w) A (compareOp .NotEq (.ref a) (.ref b)) Q E s := by
  obtain ⟨_, d1, k1⟩ := t1.r
  obtain ⟨_, d2, k2⟩ := t2.r
  exact ne_rows T N ma mb' d1 d2 hr k1 k2 h1 h2 h
end
section
variable {w : World} {mean : ExcName → Option Value} {mg mb : PySem.Str → Option Value} {A : Around} {E Q : Value → Shared → Prop} {g : Heap} {s : Shared} {L D1 D2 f1 f2 l1 l2 : Addr} {oa ob oc od : Obj} {news inn inn' : List (Addr × Obj)} {st : St} {v1 v2 : Value}
theorem mod_eqAt {A : Around} : ∀ {o : Option (List Int)}, ModV v1 o → ModV v2 o → SeqAt.EqAt A s v1 v2 true
  | none, e, e' => by rw [show v1 = .none from e, show v2 = .none from e']; exact SeqAt.EqAt.same _
  | some cs, e, e' => by
    obtain ⟨t, rfl⟩ := e
    obtain ⟨t', rfl⟩ := e'
    have := SeqAt.EqAt.str_str (A := A) (s := s) (strOf cs) t (strOf cs) t'
    rwa [beq_self_eq_true] at this
theorem eq_told (T : Top view loose mean mg mb g) (N : News g L s.heap news) (hr : Rm A 2) (m1 : (D1, { cls := .type "tuple", data := .seq #[v1, .ref f1, .ref l1] }) ∈ news) (m2 : (D2, { cls := .type "tuple", data := .seq #[v2, .ref f2, .ref l2] }) ∈ news)
    (m3 : (f1, oa) ∈ news) (m4 : (f2, ob) ∈ news) (m5 : (l1, oc) ∈ news) (m6 : (l2, od) ∈ news) (t1 : Tells w st v1 oa oc inn) (t2 : Tells w st v2 ob od inn') (h1 : ∀ p ∈ inn, p ∈ news) (h2 : ∀ p ∈ inn', p ∈ news) (h : Q (.bool true) s) :
    wpAny (MW w) A (compareOp .Eq (.ref D1) (.ref D2)) Q E s := by
  obtain ⟨_, d1, k1⟩ := t1.f
  obtain ⟨_, d2, k2⟩ := t2.f
  obtain ⟨_, d3, k3⟩ := t1.r
  obtain ⟨_, d4, k4⟩ := t2.r
  have hu : A.units + 16 < cLine := hr.2
  have hu1 : A.in1.units < cLine := by show A.units + 1 < _; lia
  have hu2 : A.in1.units + 1 < cLine := by show A.units + 1 + 1 < _; lia
  refine SeqAt.eq_tupleAt (e := fun _ => true) ⟨_, (N _ m1).1, rfl, _, rfl⟩ ⟨_, (N _ m2).1, rfl, _, rfl⟩ (by lia) (fun j h1' h2' => ?_) h
  match j, h1', h2' with
  | 0, _, _ => exact mod_eqAt t1.m t2.m
  | 1, _, _ => exact names_eqAt (no_mod T N m3) (no_mod T N m4) (N _ m3).1 (N _ m4).1 d1 d2 hu1 k1 k2
  | 2, _, _ => exact rows_eqAt (no_mod T N m5) (no_mod T N m6) (N _ m5).1 (N _ m6).1 d3 d4 hu2 k3 k4 (fun p hp => ⟨(N p (h1 p hp)).1, no_mod T N (h1 p hp)⟩) fun p hp => ⟨(N p (h2 p hp)).1, no_mod T N (h2 p hp)⟩
end
theorem clear_K {w : World} {A : Around} {E Q : Value → Shared → Prop} {g hp : Heap} {gs : Array GenState} {dr : Drawn} {tk : Nat} {os : OsState} {L d : Addr} {m : PySem.Str → Option Value} {news : List (Addr × Obj)} {gg : Obj → List (Addr × Obj)} {o : Obj} {kv : List (Int × Value)}
    (F : Fr g L hp m) (N : News g L hp news) (U : UpdF d o news gg) (hd : o.IsDictOf (PySem.intKind PySem.Challenge.pw_nm0124_01 w) kv) (hl : kv.length ≤ 1000)
    (h : ∀ h' o', Fr g L h' m → News g L h' (gg o') → o'.IsDictOf (PySem.intKind PySem.Challenge.pw_nm0124_01 w) [] → Q .none ⟨h', gs, dr, tk, os⟩) : wpAny (MW w) A (call (.builtin "dict.clear") [.ref d]) Q E ⟨hp, gs, dr, tk, os⟩ := by
  obtain ⟨pre, post, rfl, hg, a, b⟩ := U.split
  refine call_clear_madeIn (s := ⟨hp, gs, dr, tk, os⟩) (enc := PyData.int) F N a b hd (fun h' o' F' N' x _ => h h' o' F' (hg o' ▸ N') x) (hsz := ?_)
  rw [sizeLine_eq]; exact Nat.le_trans hl (by decide)
/-- what is needed after the comparison, in order -/
theorem told_ord2 {g h : Heap} {L : Addr} {d1 d2 q1 q2 q3 p1 p2 p3 p4 : Addr × Obj} {i1 i2 : List (Addr × Obj)} (N : News g L h (d1 :: d2 :: q1 :: q2 :: q3 :: p1 :: p2 :: p3 :: p4 :: (i1 ++ i2))) : News g L h (p1 :: p2 :: p3 :: p4 :: q2 :: q3 :: (i1 ++ i2)) := News_sub N fun z hz => by
  simp only [List.mem_cons, List.mem_append] at hz ⊢
  rcases hz with h | h | h | h | h | h | h | h <;> simp [h]
/-- the rows' dicts, still to be cleared or not -/
noncomputable def RowD (w : World) (kl : List (Int × Value)) (inn : List (Addr × Obj)) : Prop :=
  ∀ p ∈ kl, ∃ c oc kv, p.2 = .ref c ∧ (c, oc) ∈ inn ∧ oc.IsDictOf (PySem.intKind PySem.Challenge.pw_nm0124_01 w) kv ∧ kv.length ≤ 1000
theorem RowS.toD {w : World} {rs : List (Int × List (Int × List Int))} : ∀ {kl : List (Int × Value)} {inn : List (Addr × Obj)}, RowS w kl inn rs → (∀ p ∈ rs, p.2.length ≤ 1000) → RowD w kl inn := by
  induction rs with
  | nil => intro kl inn h _; rw [h.nil_inv.1]; exact fun _ h => nomatch h
  | cons x r ih =>
    obtain ⟨k, x⟩ := x
    intro kl inn h hl p hp
    obtain ⟨c, oc, kv, q, i1, rfl, rfl, a1, a2, a3⟩ := h.inv
    rcases List.mem_cons.mp hp with rfl | hp
    · exact ⟨c, oc, kv, rfl, .head _, a1, by rw [a2.len]; exact hl _ (.head _)⟩
    · obtain ⟨c', o', kv', e1, e2, e3⟩ := ih a3 (fun p hp => hl p (.tail _ hp)) p hp
      exact ⟨c', o', kv', e1, .tail _ e2, e3⟩
noncomputable def turn (c : Nat) (o : Obj) (l : List (Addr × Obj)) : List (Addr × Obj) := l.map fun q => if q.1 = c then (c, o) else q
theorem RowD.turn {w : World} {kl : List (Int × Value)} {inn : List (Addr × Obj)} {c : Addr} {o : Obj} (h : RowD w kl inn) (ho : o.IsDictOf (PySem.intKind PySem.Challenge.pw_nm0124_01 w) []) : RowD w kl (Mine.turn c o inn) := fun p hp => by
  obtain ⟨c', o', kv', e1, e2, e3⟩ := h p hp
  by_cases q : c' = c
  · exact ⟨c', o, [], e1, List.mem_map.mpr ⟨_, e2, by rw [if_pos q, q]⟩, ho, Nat.zero_le _⟩
  · exact ⟨c', o', kv', e1, List.mem_map.mpr ⟨_, e2, by rw [if_neg q]⟩, e3⟩
/-- objects whose addresses are none of these -/
noncomputable def Apart (X : List (Addr × Obj)) (Y : List Addr) : Prop := ∀ p ∈ X, p.1 ∉ Y
theorem turn_off {c : Addr} {o : Obj} {l : List (Addr × Obj)} (h : ∀ q ∈ l, q.1 ≠ c) : turn c o l = l := by
  refine (List.map_congr_left fun q hq => ?_).trans (List.map_id _)
  rw [if_neg (h q hq)]; rfl
theorem Apart.turn {X : List (Addr × Obj)} {Y : List Addr} {c : Addr} {o : Obj} (h : Apart X Y) : Apart (Mine.turn c o X) Y := fun p hp => by
  obtain ⟨q, hq, rfl⟩ := List.mem_map.mp hp
  by_cases e : q.1 = c
  · rw [if_pos e, ← e]; exact h q hq
  · rw [if_neg e]; exact h q hq
theorem told_apart {w : World} {T y dy df dl df' dl' : Nat} {mv mv' : Value} {b b' : Bool} {u1 u2 u3 u4 : Tok} {of ol of' ol' : Obj} {inn inn' : List (Addr × Obj)} (fr : Fresh (toldN w y dy mv df dl b u1 u2 u3 u4 of ol inn) (toldD w T mv' df' dl' b' of' ol' inn')) (o1 : Off inn y) (o2 : Off inn dy) (o3 : Off inn df) (o4 : Off inn dl) :
    @Ne Nat dy df' ∧ @Ne Nat dy dl' ∧ @Ne Nat df df' ∧ @Ne Nat df dl' ∧ @Ne Nat dl df' ∧ @Ne Nat dl dl' ∧ Off (inn ++ inn') dy ∧ Off (inn ++ inn') df ∧ Off (inn ++ inn') dl ∧ Apart inn (y :: dy :: df :: dl :: df' :: dl' :: inn'.map (·.1)) := by
  have m1 : ∀ q ∈ inn', q ∈ toldD w T mv' df' dl' b' of' ol' inn' := fun q hq => .tail _ (.tail _ (.tail _ hq))
  have off : ∀ z : Nat, Off inn z → (∀ q ∈ inn', z ≠ q.1) → Off (inn ++ inn') z := fun z h1 h2 p hp => (List.mem_append.mp hp).elim (h1 p) fun q => (h2 p q).symm
  have f2 := fr _ (.tail _ (.head _))
  have f3 := fr _ (.tail _ (.tail _ (.head _)))
  have f4 := fr _ (.tail _ (.tail _ (.tail _ (.head _))))
  refine ⟨f2 _ (.tail _ (.head _)), f2 _ (.tail _ (.tail _ (.head _))), f3 _ (.tail _ (.head _)), f3 _ (.tail _ (.tail _ (.head _))), f4 _ (.tail _ (.head _)), f4 _ (.tail _ (.tail _ (.head _))),
    off _ o2 fun q hq => f2 q (m1 q hq), off _ o3 fun q hq => f3 q (m1 q hq), off _ o4 fun q hq => f4 q (m1 q hq), fun p hp z => ?_⟩
  have g1 := fr p (.tail _ (.tail _ (.tail _ (.tail _ hp))))
  rcases List.mem_cons.mp z with z | z
  · exact o1 p hp z
  rcases List.mem_cons.mp z with z | z
  · exact o2 p hp z
  rcases List.mem_cons.mp z with z | z
  · exact o3 p hp z
  rcases List.mem_cons.mp z with z | z
  · exact o4 p hp z
  rcases List.mem_cons.mp z with z | z
  · exact g1 _ (.tail _ (.head _)) z
  rcases List.mem_cons.mp z with z | z
  · exact g1 _ (.tail _ (.tail _ (.head _))) z
  obtain ⟨q, hq, e⟩ := List.mem_map.mp z
  exact g1 q (m1 q hq) e.symm
/-- all stand below this address -/
noncomputable def Under (X : List (Addr × Obj)) (B : Nat) : Prop := ∀ q ∈ X, @LT.lt Nat _ q.1 B
theorem list_keys {w : World} {mean : ExcName → Option Value} {mg mb : PySem.Str → Option Value} {A : Around} {E Q : Value → Shared → Prop} {g hp : Heap} {gs : Array GenState} {dr : Drawn} {tk : Nat} {os : OsState} {L d : Addr} {m : PySem.Str → Option Value} {news : List (Addr × Obj)} {o : Obj} {kl : List (Int × Value)}
    (T : Top view loose mean mg mb g) (hh : A.handled = none) (F : Fr g L hp m) (N : News g L hp news) (hm : (d, o) ∈ news) (hd : o.IsDictOf (PySem.intKind PySem.Challenge.pw_nm0124_01 w) kl) (hl : kl.length ≤ 1000)
    (h : ∀ (B : Addr) c h' tk' (vs : List Value), (∀ v ∈ vs, ∃ p ∈ kl, ∃ t, v = .int p.1 t) → Fr g L h' m → News g L h' ((B, listOf vs.toArray c) :: news) → Under news B → Q (.ref B) ⟨h', gs, dr, tk', os⟩) :
    wpAny (MW w) A (call (.type "list") [.ref d]) Q E ⟨hp, gs, dr, tk, os⟩ := by
  obtain ⟨ep, hat⟩ := (kda_dict (s := ⟨hp, gs, dr, tk, os⟩) N hm hd).dictAt
  refine kdl_N (s := ⟨hp, gs, dr, tk, os⟩) (kdl_dict (knd := PySem.intKind _ _) (kvs := kl) (ep := ep) (no_mod T N hm)) hh F N hat (by rw [sizeLine_eq]; exact Nat.le_trans hl (by decide)) fun B c h' tk' vs F' N' l1 _ hv => h B c h' tk' vs (fun v hv' => ?_) F' N' l1
  obtain ⟨j, hj⟩ := List.mem_iff_getElem?.mp hv'
  obtain ⟨k, x, hx, hk⟩ := hv j v hj
  exact ⟨(k, x), List.mem_of_getElem? hx, Value.isInt_shape hk⟩
theorem clear_at {w : World} {A : Around} {E Q : Value → Shared → Prop} {g hp : Heap} {gs : Array GenState} {dr : Drawn} {tk : Nat} {os : OsState} {L c : Addr} {m : PySem.Str → Option Value} {pre inn post : List (Addr × Obj)} {oc : Obj} {kv : List (Int × Value)}
    (F : Fr g L hp m) (N : News g L hp (pre ++ (inn ++ post))) (hm : (c, oc) ∈ inn) (hd : oc.IsDictOf (PySem.intKind PySem.Challenge.pw_nm0124_01 w) kv) (hl : kv.length ≤ 1000) (h1 : c ∉ pre.map (·.1)) (h2 : c ∉ post.map (·.1))
    (h : ∀ h' o', o'.IsDictOf (PySem.intKind PySem.Challenge.pw_nm0124_01 w) [] → Fr g L h' m → News g L h' (pre ++ (turn c o' inn ++ post)) → Q .none ⟨h', gs, dr, tk, os⟩) :
    wpAny (MW w) A (call (.builtin "dict.clear") [.ref c]) Q E ⟨hp, gs, dr, tk, os⟩ := by
  refine clear_any F N (List.mem_append_right _ (List.mem_append_left _ hm)) hd hl fun h' o' hd' F' N' => h h' o' hd' F' ?_
  have e : ∀ l : List (Addr × Obj), c ∉ l.map (·.1) → turn c o' l = l := fun l hl => turn_off fun q hq e => hl (e ▸ List.mem_map_of_mem hq)
  have e1 : turn c o' (pre ++ (inn ++ post)) = pre ++ (turn c o' inn ++ post) := by
    have := e pre h1
    have := e post h2
    unfold turn at *
    rw [List.map_append, List.map_append, ‹List.map _ pre = pre›, ‹List.map _ post = post›]
  exact e1 ▸ N'
inductive JC (w : World) (ks : List Int) (bs : Array UInt8) (tb : Tok) (kl : List (Int × Value)) (mv : Value) (I y df dl : Nat) (X i1 : List (Addr × Obj)) (l : List Value) (m : PySem.Str → Option Value) (news : List (Addr × Obj)) : Prop
  | mk (inn : List (Addr × Obj)) (h1 : ∀ v ∈ l, ∃ p ∈ kl, ∃ t, v = .int p.1 t) (h2 : RowD w kl inn) (h3 : Apart inn (I :: (X ++ i1).map (·.1)))
    (hm : AllOn m [(PySem.Str.ofString "told", .ref y), (PySem.Str.ofString "rows", .ref dl), (PySem.Str.ofString "funcs", .ref df), (PySem.Str.ofString "title", mv), (PySem.Str.ofString "octets", .bytes bs tb)]) (h4 : news = X ++ (inn ++ i1)) : JC w ks bs tb kl mv I y df dl X i1 l m news
theorem off_X {X i1 i2 : List (Addr × Obj)} {I : Nat} (h : ∀ p ∈ X ++ (i2 ++ i1), p.1 < I) : ∀ p ∈ X ++ i1, p.1 ≠ I := fun p hp => Nat.ne_of_lt (h p ((List.mem_append.mp hp).elim (List.mem_append_left _) fun q => List.mem_append_right _ (List.mem_append_right _ q)))
theorem apart_I {B I : Nat} {o0 : Obj} {a b c d e f : Addr × Obj} {i1 i2 : List (Addr × Obj)} (h : Apart i2 (a.1 :: b.1 :: c.1 :: d.1 :: e.1 :: f.1 :: i1.map (·.1))) (lI : ∀ p ∈ (B, o0) :: a :: b :: c :: d :: e :: f :: (i2 ++ i1), p.1 < I) (lB : ∀ p ∈ a :: b :: c :: d :: e :: f :: (i2 ++ i1), p.1 < B) :
    Apart i2 (I :: ([(B, o0), a, b, c, d, e, f] ++ i1).map (·.1)) := fun p hp z => by
  have hp' : p ∈ a :: b :: c :: d :: e :: f :: (i2 ++ i1) := .tail _ (.tail _ (.tail _ (.tail _ (.tail _ (.tail _ (List.mem_append_left _ hp))))))
  rcases List.mem_cons.mp z with z | z
  · exact absurd z (Nat.ne_of_lt (lI p (.tail _ hp')))
  rcases List.mem_cons.mp z with z | z
  · exact absurd z (Nat.ne_of_lt (lB p hp'))
  exact h p hp z
theorem told_ord3 {g h : Heap} {L : Addr} {d1 p1 p2 p3 p4 q1 q2 : Addr × Obj} {i1 i2 : List (Addr × Obj)} (N : News g L h ([d1, p1, p2, p3, p4, q1, q2] ++ (i1 ++ i2))) : News g L h (p1 :: p2 :: p4 :: q1 :: q2 :: i2) := News_sub N fun z hz => by
  simp only [List.cons_append, List.nil_append, List.mem_cons, List.mem_append] at hz ⊢
  rcases hz with h | h | h | h | h | h <;> simp [h]
theorem told_ord4 {g h : Heap} {L : Addr} {d1 p1 p2 p3 p4 t1 t2 t3 q1 q2 : Addr × Obj} {i1 i2 : List (Addr × Obj)} (N : News g L h (p1 :: p2 :: p3 :: p4 :: (i1 ++ d1 :: t1 :: t2 :: t3 :: q1 :: q2 :: i2))) : News g L h (p1 :: p2 :: p3 :: p4 :: q1 :: q2 :: (i1 ++ i2)) := News_sub N fun z hz => by
  simp only [List.mem_cons, List.mem_append] at hz ⊢
  rcases hz with h | h | h | h | h | h | h | h <;> simp [h]
theorem valueAt_ref {w : World} {o : Obj} {kl : List (Int × Value)} {p : Int × Value} {c : Addr} (hd : o.IsDictOf (PySem.intKind PySem.Challenge.pw_nm0124_01 w) kl) (hp : p ∈ kl) (hc : p.2 = .ref c) : valueAt kl p.1 = some (.ref c) := by
  obtain ⟨_, _, _, _, _, _, hn⟩ := hd
  rw [valueAt_mem hn p hp, hc]
theorem mem_mid {g h : Heap} {L : Addr} {X i1 i2 : List (Addr × Obj)} {p : Addr × Obj} (_ : News g L h (X ++ (i1 ++ i2))) (hp : p ∈ i1) : p ∈ X ++ (i1 ++ i2) := List.mem_append_right _ (List.mem_append_left _ hp)
theorem apart_1 {I : Nat} {o : Obj} {X i1 i2 : List (Addr × Obj)} {p : Addr × Obj} (h : Apart i2 (I :: (X ++ i1).map (·.1))) (hp : p ∈ i2) : p.1 ∉ ((I, o) :: X).map (·.1) := fun z => h p hp (by
  rw [List.map_append]
  exact (List.mem_cons.mp z).elim (fun e => e ▸ .head _) fun z => .tail _ (List.mem_append_left _ z))
theorem apart_2 {I : Nat} {X i1 i2 : List (Addr × Obj)} {p : Addr × Obj} (h : Apart i2 (I :: (X ++ i1).map (·.1))) (hp : p ∈ i2) : p.1 ∉ i1.map (·.1) := fun z => h p hp (by
  rw [List.map_append]
  exact .tail _ (List.mem_append_right _ z))
theorem off_turn {I : Nat} {X i1 i2 : List (Addr × Obj)} (h : ∀ p ∈ X ++ i1, p.1 ≠ I) (hA : Apart i2 (I :: (X ++ i1).map (·.1))) : ∀ p ∈ X ++ (i2 ++ i1), p.1 ≠ I := fun p hp e => by
  rcases List.mem_append.mp hp with q | q
  · exact h p (List.mem_append_left _ q) e
  rcases List.mem_append.mp q with q | q
  · exact hA p q (e ▸ .head _)
  · exact h p (List.mem_append_right _ q) e
theorem made_z {prog : Program} {w : World} {g h : Heap} {L : Addr} {m : PySem.Str → Option Value} {news : List (Addr × Obj)} {P : Heap → Prop} {v : Value} {t : Tok} (F : Fr g L h m) (N : News g L h news)
    (k : ∀ h' o, Fr g L h' m → News g L h' ((h.objs.size, o) :: news) → Under news h.objs.size → P h') :
    ∃ kvs, Carries (PySem.intKind prog w) [(.int 0 t, v)] kvs ∧ (h.push { cls := .type "dict", data := .dict #[] }).DictOf (PySem.intKind prog w) h.objs.size [] ∧
      ∀ h', h'.DictOf (PySem.intKind prog w) h.objs.size (merged [] kvs) → Heap.SameBut h.objs.size (h.push { cls := .type "dict", data := .dict #[] }) h' → P h' :=
  made_int F N rfl (by simp [intKeyPairs]) fun h' o F' N' _ => k h' o F' N' fun p hp => Heap.lt_size (N p hp).1
theorem modV_handed {v : Value} : ∀ {o : Option (List Int)}, ModV v o → handedIn v = true
  | none, e => by rw [show v = .none from e]; rfl
  | some cs, e => by obtain ⟨t, rfl⟩ := e; rfl
section
variable {w : World} {mean : ExcName → Option Value} {mg mb : PySem.Str → Option Value} {A : Around} {base g : Heap} {outer : List Env} {s : Shared} {Q E : Value → Shared → Prop}
  {bs : Array UInt8} {ks : List Int} {tb : Tok}
theorem c_told (hb : KBw.bInts bs = ks) (hz : ks.length ≤ 1000) (a : Amb w mean mg mb A base outer g) (ov : Over g s []) (XB : (K w.params).In base) (TB : Top view loose mean mg mb base) (D : KtsDicts (frs outer) g) (hr : Rm A 42) (hgd : A.guards = some [])
    (hret : ∀ h' tk' g', KtsTurn (frs outer) g g' → Amb w mean mg mb A base outer g' → KtsDicts (frs outer) g' → Over g' { s with heap := h', toks := tk' } [] → Q (.bool true) { s with heap := h', toks := tk' }) :
    wpAny (MW w) A (call (.ref 359) [.bytes bs tb]) Q E s := by
  have ok : okS (sec ks).1 := sectP_okS hb hz
  have okm := ok.m
  obtain ⟨hnd, dp, fr, gd, un⟩ := A
  obtain rfl : hnd = none := a.hh
  obtain rfl : fr = some outer := a.B.stack
  have X := a.X
  have T := a.T
  have B := a.B
  refine wpAny_call ?_
  refine' enter (binds := [(PySem.Str.ofString "octets", .bytes bs tb)]) a ov ?k6 ?k7 ?k8 ?k9 ?kB ?_ ?c2 ?c3 ?c4 ?c5
  (case k6 => k_is)
  (case k7 => k_is)
  (case k8 => exact hr.depth)
  (case k9 => first | exact BindsTo.of_eq rfl | exact binds_K (a.X.keeps ov.st) rfl (by k_is) rfl rfl rfl)
  (case kB => exact locs rfl)
  (case c2 => exact rfl)
  (case c3 => exact rfl)
  (case c4 => exact rfl)
  (case c5 => decide)
  intro L F0 tk F N
  dsimp only [ifs, List.reverse, List.reverseAux] at F
  conv in (occs := *) fnBody _ => all_goals whnf
  conv in (occs := *) fnScope _ => all_goals whnf
  try dsimp only
  k_fold
  obtain rfl : gd = some [] := hgd
  iterate 38 (focus (first | ((fail_if_success fail_if_success with_reducible show wpAny _ _ (call (Value.ref _) _ _) _ _ _); ((k_dflt (first | (refine w_lread (by assumption) (by assumption) (by assumption) (by assumption) (by exact Rm.le (by assumption) (by decide)) ?_ rfl     ; intro h' tk' T' mv' df' dl' of' ol' inn' tl' F' N') | (refine w_sect (by assumption) (by assumption) (by assumption) (by assumption) (by assumption) (by assumption) (by assumption) (by assumption) (by exact Rm.le (by assumption) (by decide)) ?_ rfl         ; intro h' tk' y' dy' df' dl' mv' of' ol' inn' u1 u2 u3 u4 g' t' a' D' tl' l1 l2 l3 o1 o2 o3 o4 F' fr' N'; have hm' := modV_handed (Tells.m tl'); have X' := Amb.X a'; have T' := Amb.T a'; have B' := Amb.B a'; dsimp only [toldN, toldD, List.cons_append] at N'))))) | walk1))
  rotate_left
  rename News _ _ _ _ => N1
  replace N1 := told_ord N1
  iterate 62 (focus (first | ((fail_if_success fail_if_success with_reducible show wpAny _ _ (compareOp CmpOp.NotEq (Value.ref _) (Value.ref _)) _ _ _); (k_dflt (first | refine ne_f (by assumption) (by assumption) (by k_mem) (by k_mem) (Rm.deeper (Rm.le (by assumption) (by decide))) (by assumption) (by assumption) ?_ | refine ne_l (by assumption) (by assumption) (by k_mem) (by k_mem) (Rm.deeper (Rm.le (by assumption) (by decide))) (by assumption) (by assumption) (by intro _ hp; repeat (first | exact List.mem_append_left _ hp | exact List.mem_append_right _ hp | apply List.Mem.tail)) (by intro _ hp; repeat (first | exact List.mem_append_left _ hp | exact List.mem_append_right _ hp | apply List.Mem.tail)) ?_))) | ((fail_if_success fail_if_success with_reducible show wpAny _ _ (compareOp CmpOp.NotEq (Value.str _ _) (Value.str _ _)) _ _ _); (k_dflt (refine ne_same ?_))) | ((fail_if_success fail_if_success with_reducible show wpAny _ _ (call (Value.builtin "repr") _ _) _ _ _); ((with_reducible show wpAny _ _ (call (Value.builtin "repr") [Value.ref _]) _ _ _); k_dflt (refine repr_mod (by rfl) (by exact Rm.deeper (Rm.le (by assumption) (by decide))) (by assumption) (by assumption) (by k_mem) (by exact Tells.m (by assumption)) (by assumption) ?_     ); intro h' t' tk' F' N')) | ((fail_if_success fail_if_success with_reducible show wpAny _ _ (getAttr (Value.ref _) _ _) _ _ _); (k_dflt (refine get_own (by k_asm) (by k_asm) (by k_inst) (by k_is) (by k_is) (by k_is) (by k_is) (by k_get) (by assumption) ?_         ; k_whole))) | walk1))
  rotate_left
  rename News _ _ _ _ => N2
  replace N2 := told_ord2 N2
  rename Tells _ _ _ _ _ _ => tl2
  obtain ⟨kf, d1, k1⟩ := tl2.f
  obtain ⟨kl, d2, k2⟩ := tl2.r
  have n1 : kf.length ≤ 1000 := by rw [k1.len]; exact ok.f
  have n2 : kl.length ≤ 1000 := by rw [k2.len]; exact ok.r
  have n3 := k2.toD ok.rr
  have n4 : kl.length ≤ sizeLine := by rw [sizeLine_eq]; exact Nat.le_trans n2 (by decide)
  obtain ⟨e1, e2, e3, e4, e5, e6, e7, e8, e9, e10⟩ := told_apart (by assumption) (by assumption) (by assumption) (by assumption) (by assumption)
  iterate 11 (focus (first | ((fail_if_success fail_if_success with_reducible show wpAny _ _ (call (Value.builtin "dict.clear") _ _) _ _ _); (k_dflt (first | (refine clear_K (by assumption) (by assumption) (by k_updF) (by assumption) (by assumption) ?_     ; intro h' o' F' N' hd'; (try dsimp only at N')) | (refine clear_at (pre := [_, _, _, _, _, _, _, _]) (by assumption) (by assumption) (by assumption) (by assumption) (by assumption) (by assumption) (by assumption) ?_       ; intro h' o' hd' F' N'; (try dsimp only [List.cons_append, List.nil_append] at N'))))) | ((fail_if_success fail_if_success with_reducible show wpAny _ _ (getMethod (Value.ref _) _ _) _ _ _); ((with_reducible show wpAny _ _ (getMethod (Value.ref _) (PySem.Str.ofString "clear") _) _ _ _); k_dflt (refine kdl_method (knd := PySem.intKind _ _) PySem.F.slot_dict_clear PySem.F.type_dict_clear (by assumption) (by first | k_mem | assumption) (by assumption) ?_))) | walk1))
  rotate_left
  rename Fr _ _ _ _ => F3
  refine' For_invVF F3 ?k1 ?k2 ?_
  (case k1 => exact rfl)
  (case k2 => exact rfl)
  iterate 9 (focus (first | ((fail_if_success fail_if_success with_reducible show wpAny _ _ (call (Value.type "list") _ _) _ _ _); (k_dflt (refine list_keys (by assumption) rfl (by assumption) (by assumption) (by k_mem) (by assumption) (by assumption) ?_     ); intro B' c' h' tk' vs' hv' F' N' l1')) | walk1))
  rotate_left
  rename Fr _ _ _ _ => F5
  rename News _ _ _ _ => N5
  rename Under _ _ => lB
  refine iter_listUnr rfl F5 N5 (.head _) rfl rfl fun I lI => ?_
  have hX := off_X (X := [_, _, _, _, _, _, _]) lI
  have hA := apart_I e10 lI lB
  refine listRest_ind (JC w ks bs tb kl _ I _ _ _ [_, _, _, _, _, _, _] _) ?hl ?h0 ?h1 _ _ _ ⟨_, by assumption, n3, hA, ⟨rfl, rfl, rfl, rfl, rfl, trivial⟩, rfl⟩
  case hl =>
    intro l m n j
    obtain ⟨inn, _, _, _, _, rfl⟩ := j
    exact .head _
  case h0 =>
    intro m₂ news₂ J h₂ tk₂ F₂ N₂
    obtain ⟨inn, _, _, _, hm, rfl⟩ := J
    replace F₂ : Fr _ L h₂ _ := Fr_on F₂ hm
    dsimp only [ifsE] at F₂
    replace N₂ : News _ L h₂ _ := told_ord3 N₂
    have e11 : Off _ _ := fun p hp => e9 p (List.mem_append_right _ hp)
    iterate 7 walk1
    refine made_z (by assumption) (by assumption) fun h' o' F' N' l' => ?_
    (try dsimp only)
    have l2 := l' _ (.tail _ (.tail _ (.head _)))
    dsimp only at l2
    iterate 19 (focus (first | ((fail_if_success fail_if_success with_reducible show wpAny _ _ (setItem (Value.ref _) (Value.int _ _) (Value.ref _)) _ _ _); (k_dflt (refine kda_set (knd := PySem.intKind _ _) (by assumption) (by assumption) (by k_updF) (by assumption) (intKind_is _ _ _ _) (by assumption) ?_   ); intro h' o' F' N' hd'; (try dsimp only at N'))) | ((fail_if_success fail_if_success with_reducible show wpAny _ _ (call (Value.ref _) _ _) _ _ _); ((k_dflt (first | (refine w_lread (by assumption) (by assumption) (by assumption) (by assumption) (by exact Rm.le (by assumption) (by decide)) ?_ rfl     ; intro h' tk' T' mv' df' dl' of' ol' inn' tl' F' N') | (refine w_sect (by assumption) (by assumption) (by assumption) (by assumption) (by assumption) (by assumption) (by assumption) (by assumption) (by exact Rm.le (by assumption) (by decide)) ?_ rfl         ; intro h' tk' y' dy' df' dl' mv' of' ol' inn' u1 u2 u3 u4 g' t' a' D' tl' l1 l2 l3 o1 o2 o3 o4 F' fr' N'; have hm' := modV_handed (Tells.m tl'); have X' := Amb.X a'; have T' := Amb.T a'; have B' := Amb.B a'; dsimp only [toldN, toldD, List.cons_append] at N'))))) | walk1))
    rotate_left
    rename News _ _ _ _ => N7
    replace N7 := told_ord4 N7
    iterate 27 (focus (first | ((fail_if_success fail_if_success with_reducible show wpAny _ _ (compareOp CmpOp.Eq (Value.ref _) (Value.ref _)) _ _ _); (k_dflt (refine eq_told (by assumption) (by assumption) (Rm.deeper (Rm.le (by assumption) (by decide))) (by k_mem) (by k_mem) (by k_mem) (by k_mem) (by k_mem) (by k_mem) (by assumption) (by assumption) (by intro _ hp; repeat (first | exact List.mem_append_left _ hp | exact List.mem_append_right _ hp | apply List.Mem.tail)) (by intro _ hp; repeat (first | exact List.mem_append_left _ hp | exact List.mem_append_right _ hp | apply List.Mem.tail)) ?_))) | ((fail_if_success fail_if_success with_reducible show wpAny _ _ (getAttr (Value.ref _) _ _) _ _ _); (k_dflt (refine get_own (by k_asm) (by k_asm) (by k_inst) (by k_is) (by k_is) (by k_is) (by k_is) (by k_get) (by assumption) ?_         ; k_whole))) | walk1))
    rotate_left
    exact hret _ _ _ (KtsTurn.trans (by assumption) (by assumption)) (by assumption) (by assumption) (Over.of (by assumption) News.nil)
  case h1 =>
    intro v r m₂ news₂ J it h₂ tk₂ F₂ N₂
    obtain ⟨inn, hv, hD, hA, hm, rfl⟩ := J
    obtain ⟨p, hp, t, rfl⟩ := hv v (.head _)
    obtain ⟨c, oc, kv, hpc, hin, hoc, hlc⟩ := hD p hp
    have hval := valueAt_ref d2 hp hpc
    have hmem := mem_mid (X := [_, _, _, _, _, _, _, _]) N₂ hin
    replace F₂ : Fr _ L h₂ _ := Fr_on F₂ (l := [(PySem.Str.ofString "func", .int p.1 t), (PySem.Str.ofString "told", .ref _), (PySem.Str.ofString "rows", .ref _), (PySem.Str.ofString "funcs", .ref _), (PySem.Str.ofString "title", _), (PySem.Str.ofString "octets", .bytes bs tb)]) ⟨rfl, hm⟩
    replace N₂ : News _ L h₂ _ := N₂
    dsimp only [ifsE] at F₂
    dsimp only [List.cons_append, List.nil_append] at N₂ hmem
    have q1 := apart_1 (X := [_, _, _, _, _, _, _]) (o := it) hA hin
    have q2 := apart_2 (X := [_, _, _, _, _, _, _]) hA hin
    iterate 15 (focus (first | ((fail_if_success fail_if_success with_reducible show wpAny _ _ (getItem (Value.ref _) (Value.int _ _)) _ _ _); (k_dflt (refine wpAny_getItem_of (knd := PySem.intKind _ _) (intKind_is _ _ _ _) (Heap.DictOf.mapOf (kda_dict (by assumption) (by k_mem) (by assumption))) (by assumption) ?_))) | ((fail_if_success fail_if_success with_reducible show wpAny _ _ (call (Value.builtin "dict.clear") _ _) _ _ _); (k_dflt (first | (refine clear_K (by assumption) (by assumption) (by k_updF) (by assumption) (by assumption) ?_     ; intro h' o' F' N' hd'; (try dsimp only at N')) | (refine clear_at (pre := [_, _, _, _, _, _, _, _]) (by assumption) (by assumption) (by assumption) (by assumption) (by assumption) (by assumption) (by assumption) ?_       ; intro h' o' hd' F' N'; (try dsimp only [List.cons_append, List.nil_append] at N'))))) | ((fail_if_success fail_if_success with_reducible show wpAny _ _ (getMethod (Value.ref _) _ _) _ _ _); ((with_reducible show wpAny _ _ (getMethod (Value.ref _) (PySem.Str.ofString "clear") _) _ _ _); k_dflt (refine kdl_method (knd := PySem.intKind _ _) PySem.F.slot_dict_clear PySem.F.type_dict_clear (by assumption) (by first | k_mem | assumption) (by assumption) ?_))) | walk1))
    rotate_left
    rename Fr _ _ _ _ => F4
    rename News _ _ _ _ => N4
    refine UnrEnd.intro F4 N4 ([_, _, _, _, _, _, _] ++ (turn _ _ inn ++ _)) (fun q hq => hq) (off_turn hX (Apart.turn hA)) ⟨_, fun v hv' => hv v (.tail _ hv'), hD.turn (by assumption), Apart.turn hA, ⟨rfl, rfl, rfl, rfl, rfl, trivial⟩, rfl⟩
end
-- Oa
/-- the tape: a list of ints -/
structure Tape (o : Obj) : Prop where
  ex : ∃ vs n ns, o = listOf vs.toArray n ∧ IntsAre vs ns ∧ vs.length ≤ 63
theorem ne_empty {w : World} {A : Around} {E Q : Value → Shared → Prop} {g : Heap} {s : Shared} {L d l : Addr} {news : List (Addr × Obj)} {vs : List Value} {n k : Nat} (N : News g L s.heap news) (m1 : (d, listOf vs.toArray n) ∈ news) (m2 : (l, listOf #[] k) ∈ news) (hr : Rm A 2)
    (h : Q (.bool (decide (0 < vs.length))) s) : wpAny (MW w) A (compareOp .NotEq (.ref d) (.ref l)) Q E s := by
  have hu : A.units + 16 < cLine := hr.2
  have i1 : s.heap.IsList d vs.toArray := ⟨_, (N _ m1).1, rfl, _, rfl⟩
  have i2 : s.heap.IsList l #[] := ⟨_, (N _ m2).1, rfl, _, rfl⟩
  cases vs with
  | nil => exact SeqAt.RcNeAt.lists (e := fun _ => true) i1 i2 rfl (by lia) (fun j h1 => absurd h1 (Nat.not_lt_zero j)) _ w E Q h
  | cons v r => exact SeqAt.RcNeAt.lists_lengths i1 i2 (by simp) (by lia) _ w E Q (by simpa using h)
section
variable {w : World} {mean : ExcName → Option Value} {mg mb : PySem.Str → Option Value} {A : Around} {base g : Heap} {outer : List Env} {s : Shared} {Q E : Value → Shared → Prop} {d : Nat} {o : Obj}
theorem c_next (a : Amb w mean mg mb A base outer g) (ov : Over g s [(d, o)]) (ht : Tape o) (hr : Rm A 3)
    (hret : ∀ h' tk' o' n t, Tape o' → Over g { s with heap := h', toks := tk' } [(d, o')] → Q (.int n t) { s with heap := h', toks := tk' }) :
    wpAny (MW w) A (call (.ref 258) [.ref d]) Q E s := by
  obtain ⟨vs, n, ns, rfl, hi, hl⟩ := ht.ex
  obtain ⟨hnd, dp, fr, gd, un⟩ := A
  obtain rfl : hnd = none := a.hh
  obtain rfl : fr = some outer := a.B.stack
  have X := a.X
  have T := a.T
  have B := a.B
  refine wpAny_call ?_
  refine' enter (binds := [(PySem.Str.ofString "tape", .ref d)]) a ov ?k6 ?k7 ?k8 ?k9 ?kB ?_ ?c2 ?c3 ?c4 ?c5
  (case k6 => k_is)
  (case k7 => k_is)
  (case k8 => exact hr.depth)
  (case k9 => first | exact BindsTo.of_eq rfl | exact binds_K (a.X.keeps ov.st) rfl (by k_is) rfl rfl rfl)
  (case kB => exact locs rfl)
  (case c2 => exact rfl)
  (case c3 => exact rfl)
  (case c4 => exact rfl)
  (case c5 => decide)
  intro L F0 tk F N
  dsimp only [ifs, List.reverse, List.reverseAux] at F
  conv in (occs := *) fnBody _ => all_goals whnf
  conv in (occs := *) fnScope _ => all_goals whnf
  try dsimp only
  k_fold
  iterate 16 (focus (first | ((fail_if_success fail_if_success with_reducible show wpAny _ _ (compareOp CmpOp.NotEq (Value.ref _) (Value.ref _)) _ _ _); (k_dflt (refine ne_empty (by assumption) (by k_mem) (by k_mem) (Rm.deeper (Rm.le (by assumption) (by decide))) ?_))) | walk1))
  rotate_left
  iterate 1 (focus walk1)
  rotate_left
  · exact hret _ _ _ _ _ ⟨⟨_, _, _, rfl, by assumption, by rw [List.length_dropLast]; lia⟩⟩ ((Over.of (by assumption) (by assumption)).sub fun q hq => .tail _ hq)
  · exact hret _ _ _ _ _ ht ((Over.of (by assumption) (by assumption)).sub fun q hq => .tail _ hq)
end
section
variable {w : World} {mean : ExcName → Option Value} {mg mb : PySem.Str → Option Value} {A : Around} {base g hp : Heap} {outer : List Env} {gs : Array GenState} {dr : Drawn} {tk : Nat} {os : OsState} {Q E : Value → Shared → Prop} {d : Nat} {o : Obj}
  {L f' : Addr} {m : PySem.Str → Option Value} {news : List (Addr × Obj)} {gg : Obj → List (Addr × Obj)} {qual : PySem.Str} {scope : Scope} {cd : Value}
theorem w_next (a : Amb w mean mg mb A base outer g) (F : Fr g L hp m) (N : News g L hp news) (hm : (d, o) ∈ news) (U : UpdF d o news gg) (ht : Tape o) (hr : Rm A 4)
    (hret : ∀ h' tk' n t o', Tape o' → Fr g L h' m → News g L h' (gg o') → Q (.int n t) ⟨h', gs, dr, tk', os⟩)
    (hk : scope.kind = .function) : wpAny (MW w) (A.deeper (envOf qual scope L f' cd)) (call (.ref 258) [.ref d]) Q E ⟨hp, gs, dr, tk, os⟩ := by
  have hin : ∀ p ∈ [(d, o)], p ∈ news := fun p hp => by rw [List.mem_singleton.mp hp]; exact hm
  refine c_next (siteA (s := ⟨hp, gs, dr, tk, os⟩) a F N hin hk) (siteO (s := ⟨hp, gs, dr, tk, os⟩) N hin) ht hr.deeper fun h' tk' o' n t ht' ov => ?_
  obtain ⟨F', N'⟩ := site_back (s := ⟨hp, gs, dr, tk, os⟩) F N hin ov (updF_or (h := h') (g := g) (L := L) U)
  exact hret h' tk' n t o' ht' F' N'
end
-- Ob
section
open Builtin
theorem slot_join : Slot "bytes" "join" "bytes.join" :=
  .of (owner := "bytes") (n := "join") (by rw [typeLookup_type, builtinLookup_eq_fast]; kernel_rfl) (by decide +kernel) (by decide +kernel) (by decide +kernel)
    (by first | exact .inl (by decide +kernel) | exact .inr (by decide +kernel)) (by rw [isSubtype_type]; kernel_rfl)
theorem entry_join : entryFor table "bytes.join" = some Builtin.«bytes.join» := entryFor_of_tree (by kernel_rfl)
theorem type_join : typeOf (.builtin "bytes.join") = pure (.type "method_descriptor") := by show builtinType _ = _; rw [builtinType_eq_fast]; kernel_rfl
theorem args_join (a b : Value) : argsOk "bytes.join" ⟨[a, b], []⟩ := by
  unfold argsOk; rw [signature?_of (id := "bytes.join") (n := ['n', 'i', 'o', 'j']) (o := ['s', 'e', 't', 'y', 'b']) (by kernel_rfl) W.FB.owner_bytes]; kernel_rfl
theorem buffer_any {id : String} {b : Array UInt8} {t : Tok} {full : Bool} : Bytes.buffer? id (.bytes b t) full = pure (some b) := by
  unfold Bytes.buffer?
  rw [W.KBy.special_eq W.KBy.look_buffer, W.KBy.own_buffer, W.KBy.own_release]
  kernel_rfl
theorem take_eq {id : String} {b : Array UInt8} {t : Tok} : Bytes.takeBufferQuiet? id (.bytes b t) 0 = pure (some (b, none)) := by
  unfold Bytes.takeBufferQuiet? Bytes.takeBuffer?
  rw [W.KBy.special_eq W.KBy.look_buffer, W.KBy.own_buffer]
  simp only [buffer_any]
  kernel_rfl
theorem fold_le : ∀ {ps : List (Array UInt8)} {a : Nat}, (∀ p ∈ ps, p.size ≤ 4) → ps.foldl (fun x p => x + p.size) a ≤ a + 4 * ps.length
  | [], a, _ => Nat.le_refl _
  | p :: r, a, h => by
    have h1 := h p (.head _)
    have h2 := fold_le (a := a + p.size) fun q hq => h q (.tail _ hq)
    rw [List.foldl_cons, List.length_cons]
    lia
theorem joined_le {ps : List (Array UInt8)} (h : ∀ p ∈ ps, p.size ≤ 4) : (Bytes.joined #[] ps).size ≤ 4 * ps.length := by
  have key : ∀ (l : List (Array UInt8 × Nat)) (out : Array UInt8), (∀ q ∈ l, q.1.size ≤ 4) → (l.foldl (fun out (x : Array UInt8 × Nat) => (if x.2 > 0 then out ++ (#[] : Array UInt8) else out) ++ x.1) out).size ≤ out.size + 4 * l.length := by
    intro l
    induction l with
    | nil => intro out _; exact Nat.le_refl _
    | cons q r ih =>
      intro out hq
      have h1 := hq q (.head _)
      have h2 := ih ((if q.2 > 0 then out ++ (#[] : Array UInt8) else out) ++ q.1) fun z hz => hq z (.tail _ hz)
      have h3 : ((if q.2 > 0 then out ++ (#[] : Array UInt8) else out) ++ q.1).size = out.size + q.1.size := by split <;> simp
      rw [List.foldl_cons, List.length_cons]
      lia
  have := key ps.zipIdx #[] fun q hq => h _ (List.mem_zipIdx' hq |>.2 ▸ List.getElem_mem _)
  rw [List.length_zipIdx] at this
  exact Nat.le_trans (show (Bytes.joined #[] ps).size ≤ _ from this) (Nat.le_of_eq (Nat.zero_add _))
theorem letgo_ok {M : Model} {A : Around} {E : Value → Shared → Prop} {s : Shared} {keep : List Value} {Q : Unit → Shared → Prop} (h : Q () s) : ∀ {tk : List (Value × Option Value)}, (∀ p ∈ tk, p.2 = none) → wpAny M A (Bytes.joinLetGo tk keep) Q E s
  | [], _ => wpAny_pure h
  | (x, w) :: r, hn => by
    obtain rfl : w = none := hn _ (.head _)
    unfold Bytes.joinLetGo
    exact wpAny_bind (wpAny_letGo (letgo_ok h fun p hp => hn p (.tail _ hp)))
theorem join_meets {t : Tok} {l : Addr} {vs : List Value} {n : Nat} :
    Meets («bytes.join» ⟨[.bytes #[] t, .ref l], []⟩) (fun _ R s => s.heap.IsList l vs.toArray ∧ (∀ v ∈ vs, ∃ b u, v = .bytes b u ∧ b.size ≤ 4) ∧ vs.length ≤ 3 ∧ ∀ b u k, b.size ≤ 12 → R (.ok (.ret (.bytes b u))) { s with toks := k }) := by
  refine .of_wp fun prog w A R s hS => ?_
  obtain ⟨hl, hv, hn, h⟩ := hS
  unfold «bytes.join» Bytes.joinM
  refine wpAny_bind (wpAny_of_eq (a := (.bytes #[] t, .ref l)) rfl ?_)
  obtain ⟨o, ho, hc, n', hd⟩ := hl
  have hq : ∀ {A : Around} {E : Value → Shared → Prop} {Q : Option (Array Value) → Shared → Prop}, Q (some vs.toArray) s → wpAny (model prog w) A (seqItems? (.ref l)) Q E s := fun h => wpAny_seqItems ho hd h
  show wpAny _ _ (Bytes.joinItems (.ref l) >>= _) _ _ s
  refine wpAny_bind ?_
  unfold Bytes.joinItems
  refine wpAny_bind (wpAny_typeOf ⟨o, ho, hc⟩ ?_)
  refine wpAny_pure ?_
  refine wpAny_bind (hq ?_)
  have hmain : ∀ (B : Sem PySem.Fin) (f : Nat → Array (Array UInt8) × List (Value × Option Value) → Sem (ForInStep (Array (Array UInt8) × List (Value × Option Value)))) (k : Array (Array UInt8) × List (Value × Option Value) → Sem PySem.Fin),
      B = (forIn [:vs.toArray.size] (#[], []) f >>= k) →
      (∀ i q Q E, (∀ p ∈ q.2, ∃ b u, p = (Value.bytes b u, none)) → (∀ b u, vs[i]? = some (.bytes b u) → Q (ForInStep.yield (q.1.push b, q.2 ++ [(.bytes b u, none)])) s) → i < vs.length → wpAny (model prog w) A.in1 (f i q) Q E s) →
      (∀ q, (∀ p ∈ q.1.toList, p.size ≤ 4) → q.1.size ≤ 3 → (∀ p ∈ q.2, p.2 = none) → wpAny (model prog w) A.in1 (k q) (fun fin s' => ∃ v, fin = Fin.done (Flow.ret v) ∧ R (Except.ok (Flow.ret v)) s') (fun e s' => R (Except.error e) s') s) →
      wpAny (model prog w) A.in1 B (fun fin s' => ∃ v, fin = Fin.done (Flow.ret v) ∧ R (Except.ok (Flow.ret v)) s') (fun e s' => R (Except.error e) s') s := by
    intro B f k e hf hk
    rw [e]
    refine wpAny_bind ?_
    rw [Std.Legacy.Range.forIn_eq_forIn_range']
    simp only [Std.Legacy.Range.size, Nat.sub_zero, Nat.add_sub_cancel, Nat.div_one, List.size_toArray]
    refine wpAny_forIn_list _ (fun rest q s' => s' = s ∧ ∃ i, rest = List.range' i (vs.length - i) ∧ i ≤ vs.length ∧ q.1.size = i ∧ (∀ p ∈ q.1.toList, p.size ≤ 4) ∧ ∀ p ∈ q.2, ∃ b u, p = (Value.bytes b u, none)) _ ?_ ?_ _ _ ⟨rfl, 0, by simp, Nat.zero_le _, rfl, (fun _ h => nomatch h), fun _ h => nomatch h⟩
    · rintro x rest q s' ⟨rfl, i, hr, hi, h1, h2, h3⟩
      have hlt : i < vs.length := by
        rcases Nat.lt_or_ge i vs.length with h | h
        · exact h
        · rw [Nat.sub_eq_zero_of_le h] at hr; simp at hr
      obtain ⟨rfl, hrest⟩ : x = i ∧ rest = List.range' (i + 1) (vs.length - (i + 1)) := by
        have e : vs.length - i = (vs.length - (i + 1)) + 1 := by lia
        rw [e, List.range'_succ] at hr
        injection hr with h1 h2
        exact ⟨h1, h2⟩
      refine hf x q _ _ h3 (fun b u hb => ?_) hlt
      obtain ⟨b', u', e1, e2⟩ := hv _ (List.mem_of_getElem? hb)
      cases e1
      refine ⟨rfl, x + 1, hrest, hlt, by rw [Array.size_push, h1], fun p hp => ?_, fun p hp => ?_⟩
      · rw [Array.toList_push] at hp
        rcases List.mem_append.mp hp with hp | hp
        · exact h2 p hp
        · rw [List.mem_singleton.mp hp]; exact e2
      · rcases List.mem_append.mp hp with hp | hp
        · exact h3 p hp
        · exact ⟨b, u, List.mem_singleton.mp hp⟩
    · rintro q s' ⟨rfl, i, hr, hi, h1, h2, h3⟩
      exact hk q h2 (by lia) fun p hp => by obtain ⟨b, u, rfl⟩ := h3 p hp; rfl
  dsimp only
  rw [if_pos (show (Bytes.Kind.bytes == Bytes.Kind.bytes) = true by decide)]
  have hf : ∀ (i : Nat) (q : Array (Array UInt8) × List (Value × Option Value)), (∀ p ∈ q.2, ∃ b u, p = (Value.bytes b u, none)) → i < vs.length → ∃ b u, vs[i]? = some (.bytes b u) ∧ vs.toArray.getD i Value.none = .bytes b u ∧ (q.2.any fun x => x.1.onHeap) = false := fun i q h3 hlt => by
    obtain ⟨b, u, e, _⟩ := hv _ (List.getElem_mem hlt)
    refine ⟨b, u, by rw [List.getElem?_eq_getElem hlt, e], by simp [Array.getD, hlt, e], List.any_eq_false.mpr fun p hp => ?_⟩
    obtain ⟨b, u, rfl⟩ := h3 p hp
    exact Bool.false_ne_true
  rcases vs with _ | ⟨x, _ | ⟨y, r⟩⟩
  case cons.nil =>
    obtain ⟨b, u, rfl, hb⟩ := hv x (.head _)
    refine wpAny_bind (wpAny_typeOf (W.typeIs_bytes s b u) ?_)
    exact wpAny_bind (wpAny_rule (wpAny_pure ⟨_, rfl, h b u s.toks (Nat.le_trans hb (by decide))⟩))
  all_goals
    refine hmain _ _ _ rfl (fun i q Q E h3 hQ hlt => ?_) fun q h1 h2 h3 => ?_
    · obtain ⟨b, u, e1, e2, e3⟩ := hf i q h3 hlt
      refine wpAny_bind (hq ?_)
      dsimp only
      rw [e2]
      rw [if_neg (by rw [e3]; decide)]
      refine wpAny_bind (wpAny_holding (wpAny_of_eq take_eq ?_))
      refine wpAny_bind (hq ?_)
      dsimp only
      rw [if_neg (by simp)]
      exact wpAny_pure (hQ b u e1)
    · refine wpAny_bind (wpAny_of_eq (a := (#[] : Array UInt8)) rfl ?_)
      have h4 := joined_le h1
      have h5 : q.1.toList.length ≤ 3 := by rw [Array.length_toList]; exact h2
      have h6 : q.1.foldl (fun x p => x + p.size) 0 ≤ 12 := by rw [← Array.foldl_toList]; have := fold_le (a := 0) h1; lia
      have h7 : Bytes.tooLong (q.1.foldl (fun x p => x + p.size) ((#[] : Array UInt8).size * (q.1.size - 1))) = false := W.KBy.tooLong_not (by simpa using Nat.le_trans h6 (by decide))
      rw [if_neg (by rw [h7]; decide)]
      refine wpAny_bind (wpAny_mkBytes ?_ (by rw [sizeLine_eq]; lia))
      refine wpAny_bind (wpAny_holding (wpAny_point ?_))
      exact wpAny_bind (letgo_ok (wpAny_pure ⟨_, rfl, h _ _ _ (by lia)⟩) h3)
theorem join_call {w : World} {A : Around} {E Q : Value → Shared → Prop} {s : Shared} {g : Heap} {L l : Addr} {news : List (Addr × Obj)} {vs : List Value} {n : Nat} {t : Tok} (N : News g L s.heap news) (hm : (l, W.listOf vs.toArray n) ∈ news)
    (hv : ∀ v ∈ vs, ∃ b u, v = .bytes b u ∧ b.size ≤ 4) (hn : vs.length ≤ 3) (h : ∀ b u k, b.size ≤ 12 → Q (.bytes b u) { s with toks := k }) : wpAny (MW w) A (call (.builtin "bytes.join") [.bytes #[] t, .ref l]) Q E s :=
  call_meets slot_join (W.typeIs_bytes _ _ _) entry_join (args_join _ _) (join_meets (n := n)) ⟨⟨_, (N _ hm).1, rfl, _, rfl⟩, hv, hn, h⟩
theorem join_method {M : Model} {A : Around} {E : Value → Shared → Prop} {s : Shared} {b : Array UInt8} {t : Tok} {pl : Sem Bool} {Q : Value × List Value → Shared → Prop} (h : Q (.builtin "bytes.join", [.bytes b t]) s) : wpAny M A (getMethod (.bytes b t) (PySem.Str.ofString "join") pl) Q E s :=
  W.KBd.method_of (.bytes b t) (W.typeIs_bytes _ _ _) slot_join type_join (fun _ e => nomatch e) h
end
-- Oc
/-- the number's octets: up to k + 1 of them -/
noncomputable def NumC (w : World) (mean : ExcName → Option Value) (mg mb : PySem.Str → Option Value) (base : Heap) (k : Nat) : Prop :=
  ∀ {A : Around} {g : Heap} {outer : List Env} {s : Shared} {Q E : Value → Shared → Prop} {n : Int} {t : Tok}, Amb w mean mg mb A base outer g → Over g s [] → Rm A (4 + 2 * k) → 0 ≤ n → n < 128 ^ (k + 1) →
    (∀ h' tk' b u, Array.size b ≤ k + 1 → Over g { s with heap := h', toks := tk' } [] → Q (.bytes b u) { s with heap := h', toks := tk' }) →
    wpAny (MW w) A (call (.ref 265) [.int n t]) Q E s
theorem num_div {n : Int} {j : Nat} (h0 : 0 ≤ n) (h1 : n < 128 ^ (j + 1 + 1)) : 0 ≤ n.fdiv 128 ∧ n.fdiv 128 < 128 ^ (j + 1) := by
  rw [Int.fdiv_eq_ediv_of_nonneg _ (by decide)]
  refine ⟨Int.ediv_nonneg h0 (by decide), Int.ediv_lt_of_lt_mul (by decide) ?_⟩
  rwa [← Int.pow_succ]
section
variable {w : World} {mean : ExcName → Option Value} {mg mb : PySem.Str → Option Value} {A : Around} {base g hp : Heap} {outer : List Env} {gs : Array GenState} {dr : Drawn} {tk : Nat} {os : OsState} {Q E : Value → Shared → Prop}
  {L f' : Addr} {m : PySem.Str → Option Value} {news : List (Addr × Obj)} {qual : PySem.Str} {scope : Scope} {cd : Value}
theorem w_num {k : Nat} {n : Int} {t : Tok} (H : NumC w mean mg mb base k) (a : Amb w mean mg mb A base outer g) (F : Fr g L hp m) (N : News g L hp news) (hr : Rm A (5 + 2 * k)) (h0 : 0 ≤ n) (h1 : n < 128 ^ (k + 1))
    (hret : ∀ h' tk' b u, Array.size b ≤ k + 1 → Fr g L h' m → News g L h' news → Q (.bytes b u) ⟨h', gs, dr, tk', os⟩)
    (hk : scope.kind = .function) : wpAny (MW w) (A.deeper (envOf qual scope L f' cd)) (call (.ref 265) [.int n t]) Q E ⟨hp, gs, dr, tk, os⟩ := by
  refine H (siteA (s := ⟨hp, gs, dr, tk, os⟩) a F N nin hk) (siteO (s := ⟨hp, gs, dr, tk, os⟩) N nin) (Rm.deeper (by unfold Rm at *; lia)) h0 h1 fun h' tk' b u hb ov => ?_
  obtain ⟨F', N'⟩ := site_back (s := ⟨hp, gs, dr, tk, os⟩) F N nin ov (news' := news) (fun q hq => .inr ⟨hq, by simp⟩)
  exact hret h' tk' b u hb F' N'
end
section
variable {w : World} {mean : ExcName → Option Value} {mg mb : PySem.Str → Option Value} {base : Heap}
theorem c_num0 (k : Nat) (ih : ∀ j, k = j + 1 → NumC w mean mg mb base j) : NumC w mean mg mb base k := by
  intro A g outer s Q E n t a ov hr h0 h1 hret
  obtain ⟨hnd, dp, fr, gd, un⟩ := A
  obtain rfl : hnd = none := a.hh
  obtain rfl : fr = some outer := a.B.stack
  have X := a.X
  have T := a.T
  have B := a.B
  refine wpAny_call ?_
  refine' enter (binds := [(PySem.Str.ofString "number", .int n t)]) a ov ?k6 ?k7 ?k8 ?k9 ?kB ?_ ?c2 ?c3 ?c4 ?c5
  (case k6 => k_is)
  (case k7 => k_is)
  (case k8 => exact hr.depth)
  (case k9 => first | exact BindsTo.of_eq rfl | exact binds_K (a.X.keeps ov.st) rfl (by k_is) rfl rfl rfl)
  (case kB => exact locs rfl)
  (case c2 => exact rfl)
  (case c3 => exact rfl)
  (case c4 => exact rfl)
  (case c5 => decide)
  intro L F0 tk F N
  dsimp only [ifs, List.reverse, List.reverseAux] at F
  conv in (occs := *) fnBody _ => all_goals whnf
  conv in (occs := *) fnScope _ => all_goals whnf
  try dsimp only
  k_fold
  have hm0 : 0 ≤ n.fmod 128 := Int.fmod_nonneg_of_pos _ (by decide)
  have hm1 : n.fmod 128 < 128 := Int.fmod_lt_of_pos _ (by decide)
  iterate 22 (focus walk1)
  rotate_left
  iterate 32 (focus walk1)
  rotate_left
  · exact hret _ _ _ _ (Nat.succ_le_succ (Nat.zero_le _)) (Over.of (by assumption) News.nil)
  · obtain ⟨j, rfl⟩ : ∃ j, k = j + 1 := by
      cases k with
      | zero => exact absurd h1 (by assumption)
      | succ j => exact ⟨j, rfl⟩
    have hd := num_div (n := n) (j := j) h0 h1
    refine w_num (ih j rfl) (by assumption) (by assumption) (by assumption) (by unfold Rm at *; lia) hd.1 hd.2 (fun h' tk' b u hb F' N' => ?_) rfl
    have hj : j ≤ 1000 := by have := hr.1; unfold recursionLimit at this; lia
    have hs : (#[(128 + n.fmod 128).toNat.toUInt8] ++ b).size ≤ j + 1 + 1 := by rw [Array.size_append]; show 1 + b.size ≤ _; lia
    refine KBy.add_bytes (by show 1 + b.size ≤ _; lia) fun t' tk2 => ?_
    exact hret _ _ _ _ hs (Over.of (by assumption) News.nil)
theorem c_num (k : Nat) : NumC w mean mg mb base k := by
  induction k with
  | zero => exact c_num0 0 fun j h => absurd h (by lia)
  | succ k ih => exact c_num0 (k + 1) fun j h => by obtain rfl : k = j := by lia
                                                    exact ih
end
-- Od
/-- a text that the law's builder makes -/
noncomputable def okX (cs : List Int) : Prop := cs.length ≤ 3 ∧ ∀ c ∈ cs, 0 ≤ c ∧ c < 1114112
section
variable {prog : Program} {w : World} {A : Around} {s : Shared} {h₀ : Heap} {L : Addr} {m : PySem.Str → Option Value} {env : Env}
theorem compRest_ind {elt : PySem.Expr} {x : PySem.Str} {scope : Scope} {cl : List (PySem.Str × Addr)} {P : Nat → Value → Prop} {Fin : List Value → List (Addr × Obj) → Prop} {S : List (Addr × Obj) → Prop} (J : Nat → List Value → List (Addr × Obj) → Prop)
    (h0 : ∀ i ys news, J i ys news → Fin ys news)
    (h1 : ∀ i ys news, J i ys news → ∀ v I oI C oC D m₂ h tk (E' : Value → Shared → Prop), P i v → LCg.NsObj oC m₂ → m₂ x = some v → Fr h₀ L h m → News h₀ L h ((I, oI) :: (C, oC) :: (D, LCg.lst ys) :: news) → LCg.Off3 I C D news → ((@Ne Nat I C) ∧ (@Ne Nat I D) ∧ (@Ne Nat C D)) →
      wpAny (model prog w) A (eval elt (compEnvC scope cl C env)) (LCg.CompEnd h₀ L m { s with heap := h, toks := tk } I oI C oC D (LCg.lst ys) S (fun y news' => J (i + 1) (ys ++ [y]) news')) E' { s with heap := h, toks := tk }) :
    ∀ k i ys news, J i ys news → LCg.CompRest prog w A h₀ L m env elt x scope cl s S P Fin k i ys news
  | 0, i, ys, news, j => h0 i ys news j
  | k + 1, i, ys, news, j => fun v I oI C oC D m₂ h tk E' a1 a2 a3 a4 a5 a6 a7 =>
    wpAny_mono (h1 i ys news j v I oI C oC D m₂ h tk E' a1 a2 a3 a4 a5 a6 a7) (fun _ _ z => let ⟨h', tk', n', e, F, N, o, q, r⟩ := z; ⟨h', tk', n', e, F, N, o, q, compRest_ind J h0 h1 k _ _ _ r⟩) fun _ _ z => z
end
noncomputable def JX (i : Nat) (ys : List Value) (news : List (Addr × Obj)) : Prop := news = [] ∧ (∀ v ∈ ys, ∃ b u, v = Value.bytes b u ∧ Array.size b ≤ 4) ∧ ys.length = i ∧ i ≤ 3
section
variable {w : World} {mean : ExcName → Option Value} {mg mb : PySem.Str → Option Value} {A : Around} {base g : Heap} {outer : List Env} {s : Shared} {Q E : Value → Shared → Prop}
theorem sign_at {cs : List Int} {i c : Nat} (hx : okX cs) (h : (strOf cs).cps[i]? = some c) : 0 ≤ (c : Int) ∧ (c : Int) < 1114112 ∧ i < 3 := by
  have h' : (cs.map Int.toNat)[i]? = some c := by simpa [strOf] using h
  rw [List.getElem?_map] at h'
  obtain ⟨d, hd, rfl⟩ := Option.map_eq_some_iff.mp h'
  have h1 := hx.2 d (List.mem_of_getElem? hd)
  obtain ⟨hl, _⟩ := List.getElem?_eq_some_iff.mp hd
  have h2 := hx.1
  lia
theorem c_ltold {cs : List Int} {t : Tok} (a : Amb w mean mg mb A base outer g) (ov : Over g s []) (hr : Rm A 12) (hx : okX cs)
    (hret : ∀ h' tk' b u, Array.size b ≤ 13 → Over g { s with heap := h', toks := tk' } [] → Q (.bytes b u) { s with heap := h', toks := tk' }) :
    wpAny (MW w) A (call (.ref 275) [.str (strOf cs) t]) Q E s := by
  obtain ⟨hnd, dp, fr, gd, un⟩ := A
  obtain rfl : hnd = none := a.hh
  obtain rfl : fr = some outer := a.B.stack
  have X := a.X
  have T := a.T
  have B := a.B
  refine wpAny_call ?_
  refine' enter (binds := [(PySem.Str.ofString "text", .str (strOf cs) t)]) a ov ?k6 ?k7 ?k8 ?k9 ?kB ?_ ?c2 ?c3 ?c4 ?c5
  (case k6 => k_is)
  (case k7 => k_is)
  (case k8 => exact hr.depth)
  (case k9 => first | exact BindsTo.of_eq rfl | exact binds_K (a.X.keeps ov.st) rfl (by k_is) rfl rfl rfl)
  (case kB => exact locs rfl)
  (case c2 => exact rfl)
  (case c3 => exact rfl)
  (case c4 => exact rfl)
  (case c5 => decide)
  intro L F0 tk F N
  dsimp only [ifs, List.reverse, List.reverseAux] at F
  conv in (occs := *) fnBody _ => all_goals whnf
  conv in (occs := *) fnScope _ => all_goals whnf
  try dsimp only
  k_fold
  iterate 9 (focus (first | ((fail_if_success fail_if_success with_reducible show wpAny _ _ (getMethod (Value.bytes _ _) _ _) _ _ _); (k_dflt (refine join_method ?_))) | ((fail_if_success fail_if_success with_reducible show wpAny _ _ (eval (Expr.ListComp _ _ _ _) _) _ _ _); (k_dflt (refine eval_comp (by assumption) (by with_unfolding_all rfl) (by decide) (by rfl) (by decide) (by rfl) ?_ (by intro _; rfl)))) | walk1))
  rotate_left
  refine str_comp rfl (by assumption) (by assumption) (by rw [sizeLine_eq]; have := hx.1; show (cs.map Int.toNat).toArray.size ≤ _; simp; lia) fun g' => ?_
  refine compRest_ind (JX) ?h0 ?h1 _ _ _ _ ⟨rfl, (fun _ h => nomatch h), rfl, Nat.zero_le _⟩
  case h0 =>
    intro i ys news j
    obtain ⟨rfl, j1, j2, j3⟩ := j
    intro D h tk F1 N1 _
    iterate 1 (focus walk1)
    rotate_left
    refine join_call N1 (.head _) j1 (by lia) fun b u k hb => ?_
    iterate 18 (focus walk1)
    rotate_left
    refine w_num (c_num 0) (by assumption) (by assumption) (by assumption) (Rm.le (by assumption) (by decide)) (Int.natCast_nonneg _) (by lia) (fun h' tk' b' u' hb' F' N' => ?_) rfl
    iterate 1 (focus walk1)
    rotate_left
    refine KBy.add_bytes (by lia) fun t' tk2 => ?_
    exact hret _ _ _ _ (by rw [Array.size_append]; lia) (Over.of (by assumption) News.nil)
  case h1 =>
    intro i ys news j v I oI C oC D m₂ h tk E' hv hC hm F1 N1 hoff hne
    obtain ⟨rfl, j1, j2, j3⟩ := j
    obtain ⟨c, u, hc, rfl⟩ := hv
    obtain ⟨c0, c1, c2⟩ := sign_at hx hc
    iterate 14 (focus walk1)
    rotate_left
    refine w_lsign (by assumption) (by assumption) (by assumption) c0 c1 (Rm.le (by assumption) (by decide)) (fun h' tk' b' t' hb' F' N' => ?_) rfl
    refine LCg.CompEnd.intro F' N' [] (fun _ h => h) hoff trivial ⟨rfl, fun v hv => ?_, by rw [List.length_append, j2]; rfl, c2⟩
    rcases List.mem_append.mp hv with q | q
    · exact j1 v q
    · refine ⟨b', t', List.mem_singleton.mp q, ?_⟩
      have := (signP_len c).2
      rw [← hb'] at this
      simpa [KBw.bInts] using this
end
-- Pa
noncomputable def IntP (P : Int → Prop) (hp : Heap) (gs : Array GenState) (dr : Drawn) (os : OsState) (v : Value) (s' : Shared) : Prop := ∃ z t k, v = .int z t ∧ s' = ⟨hp, gs, dr, k, os⟩ ∧ P z
theorem cut_intP {M : Model} {A : Around} {t : Sem Value} {E : Value → Shared → Prop} {Q : Value → Shared → Prop} {P : Int → Prop} {hp : Heap} {gs : Array GenState} {dr : Drawn} {tk : Nat} {os : OsState} (h : wpAny M A t (IntP P hp gs dr os) E ⟨hp, gs, dr, tk, os⟩) (k : ∀ z, P z → ∀ t k, Q (.int z t) ⟨hp, gs, dr, k, os⟩) : wpAny M A t Q E ⟨hp, gs, dr, tk, os⟩ :=
  wpAny_mono h (fun _ _ ⟨z, t, tk, e1, e2, p⟩ => by subst e1 e2; exact k z p t tk) fun _ _ e => e
noncomputable def Sgn (z : Int) : Prop := 0 ≤ z ∧ z < 1114112
theorem sgn_lo {n : Int} : Sgn (n.fmod 1112064) := ⟨Int.fmod_nonneg_of_pos _ (by decide), Int.lt_trans (Int.fmod_lt_of_pos _ (by decide)) (by decide)⟩
theorem sgn_hi {n : Int} : Sgn (n.fmod 1112064 + 2048) := ⟨Int.add_nonneg (Int.fmod_nonneg_of_pos _ (by decide)) (by decide), by have := Int.fmod_lt_of_pos n (b := 1112064) (by decide); lia⟩
theorem fm_in {n k : Int} (h : 0 < k) : 0 ≤ n.fmod k ∧ n.fmod k < k := ⟨Int.fmod_nonneg_of_pos _ h, Int.fmod_lt_of_pos _ h⟩
inductive JTx (d : Nat) (k : Nat) (i : Nat) (m : PySem.Str → Option Value) (news : List (Addr × Obj)) : Prop
  | mk (cs : List Int) (o : Obj) (t : Tok) (h1 : cs.length + k ≤ 3) (h2 : ∀ c ∈ cs, 0 ≤ c ∧ c < 1114112) (h3 : Tape o) (h4 : AllOn m [(PySem.Str.ofString "text", .str (strOf cs) t), (PySem.Str.ofString "tape", .ref d)]) (h5 : news = [(d, o)]) : JTx d k i m news
section
variable {w : World} {mean : ExcName → Option Value} {mg mb : PySem.Str → Option Value} {A : Around} {base g : Heap} {outer : List Env} {s : Shared} {Q E : Value → Shared → Prop} {d : Nat} {o : Obj}
theorem c_ltext (a : Amb w mean mg mb A base outer g) (ov : Over g s [(d, o)]) (ht : Tape o) (hr : Rm A 5)
    (hret : ∀ h' tk' o' cs t, okX cs → Tape o' → Over g { s with heap := h', toks := tk' } [(d, o')] → Q (.str (strOf cs) t) { s with heap := h', toks := tk' }) :
    wpAny (MW w) A (call (.ref 282) [.ref d]) Q E s := by
  obtain ⟨hnd, dp, fr, gd, un⟩ := A
  obtain rfl : hnd = none := a.hh
  obtain rfl : fr = some outer := a.B.stack
  have X := a.X
  have T := a.T
  have B := a.B
  refine wpAny_call ?_
  refine' enter (binds := [(PySem.Str.ofString "tape", .ref d)]) a ov ?k6 ?k7 ?k8 ?k9 ?kB ?_ ?c2 ?c3 ?c4 ?c5
  (case k6 => k_is)
  (case k7 => k_is)
  (case k8 => exact hr.depth)
  (case k9 => first | exact BindsTo.of_eq rfl | exact binds_K (a.X.keeps ov.st) rfl (by k_is) rfl rfl rfl)
  (case kB => exact locs rfl)
  (case c2 => exact rfl)
  (case c3 => exact rfl)
  (case c4 => exact rfl)
  (case c5 => decide)
  intro L F0 tk F N
  dsimp only [ifs, List.reverse, List.reverseAux] at F
  conv in (occs := *) fnBody _ => all_goals whnf
  conv in (occs := *) fnScope _ => all_goals whnf
  try dsimp only
  k_fold
  iterate 5 (focus walk1)
  rotate_left
  rename Fr _ _ _ _ => F2
  refine' For_invVF F2 ?k1 ?k2 ?_
  (case k1 => exact rfl)
  (case k2 => exact rfl)
  iterate 17 (focus (first | ((fail_if_success fail_if_success with_reducible show wpAny _ _ (call (Value.ref _) _ _) _ _ _); (k_dflt (refine w_next (by assumption) (by assumption) (by assumption) (by k_mem) (by k_updF) (by assumption) (by exact Rm.le (by assumption) (by decide)) ?_ rfl       ; intro h' tk' n' t' o' ht' F' N'; (try dsimp only at N')))) | walk1))
  rotate_left
  rename IsRange _ _ _ _ _ _ _ _ => hR
  rename Fr _ _ _ _ => F3
  rename News _ _ _ _ => N3
  rename Tape _ => ht3
  obtain ⟨q, hR, q0, q3⟩ : ∃ q, IsRange _ _ 0 q 1 _ _ _ ∧ 0 ≤ q ∧ q < 3 := ⟨_, hR, fm_in (by decide)⟩
  refine iter_rangeUnr rfl hR (small_one (by decide) (by decide) (by lia) (by lia)) (rangeSize_nat _ _) F3 N3 fun I lI => ?_
  (repeat (rename Fr _ _ _ _ => zz; clear zz)); (repeat (rename News _ _ _ _ => zz; clear zz))
  k_lt lI
  refine rangeRest_ind (JTx d) ?h0 ?h1 _ _ _ _ ⟨[110], _, _, by simp; lia, (fun c hc => by rw [List.mem_singleton.mp hc]; decide), ht3, ⟨by with_unfolding_all rfl, rfl, trivial⟩, rfl⟩
  case h0 =>
    intro _ m₂ news₂ J h₂ tk₂ F₂ N₂
    obtain ⟨cs, o₁, t₁, hl, hc, ht₁, hm, rfl⟩ := J
    replace F₂ : Fr g L h₂ _ := Fr_on F₂ hm
    dsimp only [ifsE] at F₂
    repeat (focus walk1)
    exact hret _ _ _ _ _ ⟨hl, hc⟩ ht₁ (Over.of (by assumption) (by assumption))
  case h1 =>
    intro k j m₂ news₂ J u h₂ tk₂ F₂ N₂
    obtain ⟨cs, o₁, t₁, hl, hc, ht₁, hm, rfl⟩ := J
    replace F₂ : Fr g L h₂ _ := Fr_on F₂ (l := [(PySem.Str.ofString "turn", .int _ u), (PySem.Str.ofString "text", .str (strOf cs) t₁), (PySem.Str.ofString "tape", .ref d)]) ⟨rfl, hm⟩
    dsimp only [ifsE] at F₂
    iterate 26 (focus (first | ((fail_if_success fail_if_success with_reducible show wpAny _ _ (call (Value.ref _) _ _) _ _ _); (k_dflt (refine w_next (by assumption) (by assumption) (by assumption) (by k_mem) (by k_updF) (by assumption) (by exact Rm.le (by assumption) (by decide)) ?_ rfl       ; intro h' tk' n' t' o' ht' F' N'; (try dsimp only at N')))) | walk1))
    refine cut_intP (P := Sgn) ?cut fun z hz tz k => ?rest
    case cut =>
      k_steps
      · exact ⟨_, _, _, rfl, rfl, sgn_lo⟩
      · exact ⟨_, _, _, rfl, rfl, sgn_hi⟩
    have hz0 := hz.1
    have hz1 := hz.2
    iterate 8 (focus (first | ((fail_if_success fail_if_success with_reducible show wpAny _ _ (binaryOp Operator.Add (Value.str _ _) (Value.str _ _)) _ _ _); (k_dflt (refine add_strOf (by first | assumption | lia) fun t' k' => ?_))) | walk1))
    refine ⟨cs ++ [z], _, _, ?_, fun c hc' => ?_, by assumption, ⟨rfl, rfl, trivial⟩, rfl⟩
    · rw [List.length_append]; simp; lia
    · rcases List.mem_append.mp hc' with h | h
      · exact hc c h
      · rw [List.mem_singleton.mp h]; exact hz
end
-- Pb
/-- list.sort of a list of ints that no line knows -/
theorem sort_any {w : World} {A : Around} {E Q : Value → Shared → Prop} {g : Heap} {s : Shared} {L D : Addr} {m : PySem.Str → Option Value} {news : List (Addr × Obj)} {vs : List Value} {ns : List Int} {n : Nat}
    (F : Fr g L s.heap m) (N : News g L s.heap ((D, listOf vs.toArray n) :: news)) (hoff : ∀ q ∈ news, q.1 ≠ D) (hI : IntsAre vs ns) (h64 : vs.length < 64)
    (h : ∀ h' vs' ns' c, IntsAre vs' ns' → ns'.Perm ns → Fr g L h' m → News g L h' ((D, listOf vs'.toArray c) :: news) → Q .none { s with heap := h' }) :
    wpAny (MW w) A (call (.builtin "list.sort") [.ref D]) Q E s := by
  have z := N _ (.head _)
  refine wpAny_call_entry PyProof.Rows.slot_list_sort ⟨_, z.1, rfl⟩ PyProof.Rows.entry_list_sort (list_sort_tree (n := n) (vs := vs) z.1 hI h64 fun out ns' hJ hp hP => ⟨.none, rfl, ?_⟩) (PyProof.Rows.args_list_sort _)
  have F1 : Fr g L (s.heap.update D (Obj.mapSeq fun _ => (#[] : Array Value))) m := F.change (Heap.SameBut.update ..) z.2.1 z.2.2
  have N1 := ki_turn (pre := []) (fun _ => (#[] : Array Value)) (its' := #[]) N (fun _ h => nomatch h) hoff rfl rfl
  have N2 := News.grown N1 fun _ _ e => Heap.get?_push_of_some (seqObj "tuple" vs.toArray 0) e
  have N3 := News.grown N2 fun _ _ e => Heap.get?_push_of_some (seqObj "list" #[] 0) e
  have N4 := ki_turn (pre := []) (fun _ => out) (its' := out) N3 (fun _ h => nomatch h) hoff rfl rfl
  have F4 : Fr g L ((((s.heap.update D (Obj.mapSeq fun _ => (#[] : Array Value))).push (seqObj "tuple" vs.toArray 0)).push (seqObj "list" #[] 0)).update D (Obj.mapSeq fun _ => out)) m :=
    ((F1.push (seqObj "tuple" vs.toArray 0)).push (seqObj "list" #[] 0)).change (Heap.SameBut.update ..) z.2.1 z.2.2
  exact h _ out.toList ns' _ hJ hp F4 (by rw [Array.toArray_toList]; exact N4)
theorem ints_of {vs : List Value} {ks : List Int} (hl : vs.length = ks.length) (h : ∀ (j : Nat) (v : Value), vs[j]? = some v → ∃ (k : Int) (t : Tok), ks[j]? = some k ∧ v = Value.int k t) : IntsAre vs ks := by
  induction vs generalizing ks with
  | nil => cases ks with
    | nil => exact .nil
    | cons => cases hl
  | cons v r ih =>
    cases ks with
    | nil => cases hl
    | cons k ks =>
      obtain ⟨k', t, e, rfl⟩ := h 0 v (by rfl)
      cases e
      exact .cons _ _ (ih (Nat.succ.inj hl) fun j v e => h (j + 1) v e)
/-- sorted of a dict with int keys -/
theorem sorted_dict {w : World} {A : Around} {E Q : Value → Shared → Prop} {g hp : Heap} {gs : Array GenState} {dr : Drawn} {tk : Nat} {os : OsState} {L d : Addr} {m : PySem.Str → Option Value} {news : List (Addr × Obj)} {o : Obj} {kl : List (Int × Value)}
    (lo : (d == sysModules) = false) (hh : A.handled = none) (F : Fr g L hp m) (N : News g L hp news) (hm : (d, o) ∈ news) (hd : o.IsDictOf (PySem.intKind PySem.Challenge.pw_nm0124_01 w) kl) (hl : kl.length < 64)
    (h : ∀ (B : Addr) c h' tk' (vs : List Value) ns, IntsAre vs ns → ns.Perm (kl.map (·.1)) → Fr g L h' m → News g L h' ((B, listOf vs.toArray c) :: news) → (∀ q ∈ news, q.1 < B) → Q (.ref B) ⟨h', gs, dr, tk', os⟩) :
    wpAny (MW w) A (call (.builtin "sorted") [.ref d]) Q E ⟨hp, gs, dr, tk, os⟩ := by
  obtain ⟨ep, hat⟩ := (kda_dict (s := ⟨hp, gs, dr, tk, os⟩) N hm hd).dictAt
  refine kdu_sorted (s := ⟨hp, gs, dr, tk, os⟩) (kdl_dict (knd := PySem.intKind _ _) (kvs := kl) (ep := ep) lo) hh F N hat (by rw [sizeLine_eq]; lia) fun B h' tk' vs F' N' l1 hlen hv => ?_
  have hI : IntsAre vs (kl.map (·.1)) := ints_of (by rw [hlen, List.length_map]) fun j v e => by
    obtain ⟨k, x, hx, hk⟩ := hv j v e
    obtain ⟨t, rfl⟩ := Value.isInt_shape hk
    exact ⟨k, t, by rw [List.getElem?_map, hx]; rfl, rfl⟩
  exact sort_any (s := ⟨h', gs, dr, tk', os⟩) F' N' (fun q hq => Nat.ne_of_lt (l1 q hq)) hI (by lia) fun h₂ vs' ns' c hJ hp F₂ N₂ => h B c h₂ tk' vs' ns' hJ hp F₂ N₂ l1
-- Pc
section
variable {w : World} {mean : ExcName → Option Value} {mg mb : PySem.Str → Option Value} {A : Around} {base g hp : Heap} {outer : List Env} {gs : Array GenState} {dr : Drawn} {tk : Nat} {os : OsState} {Q E : Value → Shared → Prop} {d : Nat} {o : Obj}
  {L f' : Addr} {m : PySem.Str → Option Value} {news : List (Addr × Obj)} {gg : Obj → List (Addr × Obj)} {qual : PySem.Str} {scope : Scope} {cd : Value}
theorem w_ltext (a : Amb w mean mg mb A base outer g) (F : Fr g L hp m) (N : News g L hp news) (hm : (d, o) ∈ news) (U : UpdF d o news gg) (ht : Tape o) (hr : Rm A 6)
    (hret : ∀ h' tk' cs t o', okX cs → Tape o' → Fr g L h' m → News g L h' (gg o') → Q (.str (strOf cs) t) ⟨h', gs, dr, tk', os⟩)
    (hk : scope.kind = .function) : wpAny (MW w) (A.deeper (envOf qual scope L f' cd)) (call (.ref 282) [.ref d]) Q E ⟨hp, gs, dr, tk, os⟩ := by
  have hin : ∀ p ∈ [(d, o)], p ∈ news := fun p hp => by rw [List.mem_singleton.mp hp]; exact hm
  refine c_ltext (siteA (s := ⟨hp, gs, dr, tk, os⟩) a F N hin hk) (siteO (s := ⟨hp, gs, dr, tk, os⟩) N hin) ht hr.deeper fun h' tk' o' cs t hx ht' ov => ?_
  obtain ⟨F', N'⟩ := site_back (s := ⟨hp, gs, dr, tk, os⟩) F N hin ov (updF_or (h := h') (g := g) (L := L) U)
  exact hret h' tk' cs t o' hx ht' F' N'
end
/-- what _law_some makes: up to n texts under small keys -/
noncomputable def SomeP (n : Nat) (done : List (Int × List Int)) : Prop := done.length ≤ n ∧ ∀ p ∈ done, 0 ≤ p.1 ∧ p.1 < 2000 ∧ okX p.2
inductive JSx (w : World) (d D nn : Nat) (many : Value) (k : Nat) (i : Nat) (m : PySem.Str → Option Value) (news : List (Addr × Obj)) : Prop
  | mk (x : Int) (kvs : List (Int × Value)) (done : List (Int × List Int)) (o o2 : Obj) (t : Tok) (h0 : -1 ≤ x) (h1 : x + 300 * k ≤ 899) (h2 : done.length + k ≤ nn) (h3 : ∀ p ∈ done, 0 ≤ p.1 ∧ p.1 < 2000 ∧ okX p.2) (h4 : KvS kvs done) (h5 : ∀ p ∈ kvs, p.1 ≤ x) (h6 : o2.IsDictOf (PySem.intKind PySem.Challenge.pw_nm0124_01 w) kvs) (h7 : Tape o)
    (h8 : AllOn m [(PySem.Str.ofString "index", .int x t), (PySem.Str.ofString "some", .ref D), (PySem.Str.ofString "many", many), (PySem.Str.ofString "tape", .ref d)]) (h9 : news = [(D, o2), (d, o)])   : JSx w d D nn many k i m news
theorem js_next {w : World} {d D nn : Nat} {many : Value} {k i : Nat} {m : PySem.Str → Option Value} {news : List (Addr × Obj)} {x n : Int} {kvs : List (Int × Value)} {done : List (Int × List Int)} {o o2 : Obj} {t u : Tok} {cs : List Int}
    (h0 : -1 ≤ x) (h1 : x + 300 * (k + 1 : Nat) ≤ 899) (h2 : done.length + (k + 1) ≤ nn) (h3 : ∀ p ∈ done, 0 ≤ p.1 ∧ p.1 < 2000 ∧ okX p.2) (h4 : KvS kvs done) (h5 : ∀ p ∈ kvs, p.1 ≤ x) (hx : okX cs) (h6 : o2.IsDictOf (PySem.intKind PySem.Challenge.pw_nm0124_01 w) (stored kvs (x + 1 + n.fmod 300) (.str (strOf cs) u))) (h7 : Tape o)
    (h8 : AllOn m [(PySem.Str.ofString "index", .int (x + 1 + n.fmod 300) t), (PySem.Str.ofString "some", .ref D), (PySem.Str.ofString "many", many), (PySem.Str.ofString "tape", .ref d)]) (h9 : news = [(D, o2), (d, o)]) : JSx w d D nn many k i m news := by
  obtain ⟨q0, q1⟩ := fm_in (n := n) (k := 300) (by decide)
  rw [stored_new (fun p hp => by have := h5 p hp; lia)] at h6
  refine ⟨_, _, done ++ [(x + 1 + n.fmod 300, cs)], _, _, _, by lia, by lia, ?_, fun p hp => ?_, h4.snoc, fun p hp => ?_, h6, h7, h8, h9⟩
  · rw [List.length_append]; simp; lia
  · rcases List.mem_append.mp hp with hp | hp
    · exact h3 p hp
    · rw [List.mem_singleton.mp hp]; exact ⟨by lia, by show x + 1 + n.fmod 300 < 2000; lia, hx⟩
  · rcases List.mem_append.mp hp with hp | hp
    · have := h5 p hp; lia
    · rw [List.mem_singleton.mp hp]; exact Int.le_refl _
section
variable {w : World} {mean : ExcName → Option Value} {mg mb : PySem.Str → Option Value} {A : Around} {base g : Heap} {outer : List Env} {s : Shared} {Q E : Value → Shared → Prop} {d : Nat} {o : Obj}
theorem c_lsome {nn : Nat} {t : Tok} (a : Amb w mean mg mb A base outer g) (ov : Over g s [(d, o)]) (ht : Tape o) (hn : nn ≤ 3) (hr : Rm A 7)
    (hret : ∀ h' tk' D o2 kvs done o', @Ne Nat D d → o2.IsDictOf (PySem.intKind PySem.Challenge.pw_nm0124_01 w) kvs → KvS kvs done → SomeP nn done → Tape o' → Over g { s with heap := h', toks := tk' } [(D, o2), (d, o')] → Q (.ref D) { s with heap := h', toks := tk' }) :
    wpAny (MW w) A (call (.ref 289) [.ref d, .int nn t]) Q E s := by
  obtain ⟨hnd, dp, fr, gd, un⟩ := A
  obtain rfl : hnd = none := a.hh
  obtain rfl : fr = some outer := a.B.stack
  have X := a.X
  have T := a.T
  have B := a.B
  refine wpAny_call ?_
  refine' enter (binds := [(PySem.Str.ofString "tape", .ref d), (PySem.Str.ofString "many", .int nn t)]) a ov ?k6 ?k7 ?k8 ?k9 ?kB ?_ ?c2 ?c3 ?c4 ?c5
  (case k6 => k_is)
  (case k7 => k_is)
  (case k8 => exact hr.depth)
  (case k9 => first | exact BindsTo.of_eq rfl | exact binds_K (a.X.keeps ov.st) rfl (by k_is) rfl rfl rfl)
  (case kB => exact locs rfl)
  (case c2 => exact rfl)
  (case c3 => exact rfl)
  (case c4 => exact rfl)
  (case c5 => decide)
  intro L F0 tk F N
  dsimp only [ifs, List.reverse, List.reverseAux] at F
  conv in (occs := *) fnBody _ => all_goals whnf
  conv in (occs := *) fnScope _ => all_goals whnf
  try dsimp only
  k_fold
  iterate 21 (focus walk1)
  rotate_left
  rename Fr _ _ _ _ => F2
  refine' For_invVF F2 ?k1 ?k2 ?_
  (case k1 => exact rfl)
  (case k2 => exact rfl)
  iterate 7 (focus walk1)
  rename Obj.IsDictOf (PySem.intKind _ _) _ _ => hd0
  rename IsRange _ _ _ _ _ _ _ _ => hR
  rename Fr _ _ _ _ => F3
  rename News _ _ _ _ => N3
  refine iter_rangeUnr rfl hR (small_one (by decide) (by decide) (by lia) (by lia)) (rangeSize_nat _ _) F3 (News_sub N3 fun q hq => .tail _ hq) fun I lI => ?_
  (repeat (rename Fr _ _ _ _ => zz; clear zz)); (repeat (rename News _ _ _ _ => zz; clear zz))
  k_lt lI
  refine rangeRest_ind (JSx w d _ nn _) ?h0 ?h1 _ _ _ _ ⟨-1, [], [], _, _, _, by decide, by lia, by simp, (fun _ h => nomatch h), .nil, (fun _ h => nomatch h), hd0, ht, ⟨rfl, rfl, rfl, rfl, trivial⟩, rfl⟩
  case h0 =>
    intro _ m₂ news₂ J h₂ tk₂ F₂ N₂
    obtain ⟨x, kvs, done, o₁, o₂, t₁, b0, b1, b2, b3, hk, b5, hd₁, ht₁, hm, rfl⟩ := J
    replace F₂ : Fr g L h₂ _ := Fr_on F₂ hm
    dsimp only [ifsE] at F₂
    repeat (focus walk1)
    exact hret _ _ _ _ _ _ _ (by lia) hd₁ hk ⟨b2, b3⟩ ht₁ (Over.of (by assumption) (by assumption))
  case h1 =>
    intro k j m₂ news₂ J u h₂ tk₂ F₂ N₂
    obtain ⟨x, kvs, done, o₁, o₂, t₁, b0, b1, b2, b3, hk, b5, hd₁, ht₁, hm, rfl⟩ := J
    replace F₂ : Fr g L h₂ _ := Fr_on F₂ (l := [(PySem.Str.ofString "turn", .int _ u), (PySem.Str.ofString "index", .int x t₁), (PySem.Str.ofString "some", .ref _), (PySem.Str.ofString "many", .int nn t), (PySem.Str.ofString "tape", .ref d)]) ⟨rfl, hm⟩
    dsimp only [ifsE] at F₂
    have hsz : kvs.length ≤ sizeLine := by rw [sizeLine_eq, hk.len]; lia
    iterate 38 (focus (first | ((fail_if_success fail_if_success with_reducible show wpAny _ _ (setItem (Value.ref _) (Value.int _ _) _) _ _ _); (k_dflt (refine kda_set (knd := PySem.intKind _ _) (by k_asm) (by k_asm) (by k_updF) (by k_asm) (intKind_is _ _ _ _) (by assumption) ?_    ); intro h' o' F' N' hd'; (try dsimp only at N'))) | ((fail_if_success fail_if_success with_reducible show wpAny _ _ (call (Value.ref _) _ _) _ _ _); (k_dflt (refine w_ltext (by assumption) (by assumption) (by assumption) (by k_mem) (by k_updF) (by assumption) (by exact Rm.le (by assumption) (by decide)) ?_ rfl       ; intro h' tk' n' t' o' hx' ht' F' N'; (try dsimp only at N')))) | ((fail_if_success fail_if_success with_reducible show wpAny _ _ (call (Value.ref _) _ _) _ _ _); (k_dflt (refine w_next (by assumption) (by assumption) (by assumption) (by k_mem) (by k_updF) (by assumption) (by exact Rm.le (by assumption) (by decide)) ?_ rfl       ; intro h' tk' n' t' o' ht' F' N'; (try dsimp only at N')))) | walk1))
    exact js_next b0 b1 b2 b3 hk b5 (by assumption) (by assumption) (by assumption) ⟨rfl, rfl, rfl, rfl, trivial⟩ rfl
end
-- Pd
section
variable {w : World} {mean : ExcName → Option Value} {mg mb : PySem.Str → Option Value} {A : Around} {base g hp : Heap} {outer : List Env} {gs : Array GenState} {dr : Drawn} {tk : Nat} {os : OsState} {Q E : Value → Shared → Prop} {d : Nat} {o : Obj}
  {L f' : Addr} {m : PySem.Str → Option Value} {news : List (Addr × Obj)} {gg : Obj → List (Addr × Obj)} {qual : PySem.Str} {scope : Scope} {cd : Value}
theorem w_ltold {cs : List Int} {t : Tok} (a : Amb w mean mg mb A base outer g) (F : Fr g L hp m) (N : News g L hp news) (hx : okX cs) (hr : Rm A 13)
    (hret : ∀ h' tk' b u, Array.size b ≤ 13 → Fr g L h' m → News g L h' news → Q (.bytes b u) ⟨h', gs, dr, tk', os⟩)
    (hk : scope.kind = .function) : wpAny (MW w) (A.deeper (envOf qual scope L f' cd)) (call (.ref 275) [.str (strOf cs) t]) Q E ⟨hp, gs, dr, tk, os⟩ := by
  refine c_ltold (siteA (s := ⟨hp, gs, dr, tk, os⟩) a F N nin hk) (siteO (s := ⟨hp, gs, dr, tk, os⟩) N nin) hr.deeper hx fun h' tk' b u hb ov => ?_
  obtain ⟨F', N'⟩ := site_back (s := ⟨hp, gs, dr, tk, os⟩) F N nin ov (news' := news) (fun q hq => .inr ⟨hq, by simp⟩)
  exact hret h' tk' b u hb F' N'
end
theorem KvS.at {kvs : List (Int × Value)} {done : List (Int × List Int)} (h : KvS kvs done) : ∀ p ∈ kvs, ∃ cs t, p.2 = .str (strOf cs) t ∧ (p.1, cs) ∈ done := by
  induction h with
  | nil => exact fun _ h => nomatch h
  | cons _ ih =>
    intro p hp
    rcases List.mem_cons.mp hp with rfl | hp
    · exact ⟨_, _, rfl, .head _⟩
    · obtain ⟨cs, t, e, hi⟩ := ih p hp
      exact ⟨cs, t, e, .tail _ hi⟩
theorem ints_mem {vs : List Value} {ns : List Int} (h : IntsAre vs ns) : ∀ v ∈ vs, ∃ k u, v = .int k u ∧ k ∈ ns := by
  induction h with
  | nil => exact fun _ h => nomatch h
  | cons n t _ ih =>
    intro v hv
    rcases List.mem_cons.mp hv with rfl | hv
    · exact ⟨_, _, rfl, .head _⟩
    · obtain ⟨k, u, e, hk⟩ := ih v hv
      exact ⟨k, u, e, .tail _ hk⟩
/-- an item under a key that a dict of texts has -/
theorem some_at {w : World} {o : Obj} {kvs : List (Int × Value)} {done : List (Int × List Int)} {n : Nat} {k : Int} (hd : o.IsDictOf (PySem.intKind PySem.Challenge.pw_nm0124_01 w) kvs) (hk : KvS kvs done) (hs : SomeP n done) (hm : k ∈ kvs.map (·.1)) :
    0 ≤ k ∧ k < 128 ^ 2 ∧ ∃ cs t, okX cs ∧ valueAt kvs k = some (.str (strOf cs) t) := by
  obtain ⟨p, hp, rfl⟩ := List.mem_map.mp hm
  obtain ⟨cs, t, e, hi⟩ := hk.at p hp
  obtain ⟨h1, h2, h3⟩ := hs.2 _ hi
  obtain ⟨_, _, _, _, _, _, hn⟩ := hd
  exact ⟨h1, Int.lt_trans h2 (by decide), cs, t, h3, by rw [valueAt_mem hn p hp, e]⟩
inductive JMp (kvs : List (Int × Value)) (D B : Nat) (lo o2 : Obj) (l : List Value) (m : PySem.Str → Option Value) (news : List (Addr × Obj)) : Prop
  | mk (out : Array UInt8) (t : Tok) (h1 : out.size + 15 * l.length ≤ 46) (h2 : ∀ v ∈ l, ∃ k u, v = .int k u ∧ k ∈ kvs.map (·.1)) (hm : AllOn m [(PySem.Str.ofString "out", .bytes out t), (PySem.Str.ofString "some", .ref D)]) (h4 : news = [(B, lo), (D, o2)]) : JMp kvs D B lo o2 l m news
section
variable {w : World} {mean : ExcName → Option Value} {mg mb : PySem.Str → Option Value} {A : Around} {base g : Heap} {outer : List Env} {s : Shared} {Q E : Value → Shared → Prop} {D : Nat} {o2 : Obj}
theorem c_lmap {n : Nat} {kvs : List (Int × Value)} {done : List (Int × List Int)} (a : Amb w mean mg mb A base outer g) (ov : Over g s [(D, o2)]) (hd : o2.IsDictOf (PySem.intKind PySem.Challenge.pw_nm0124_01 w) kvs) (hk : KvS kvs done) (hs : SomeP n done) (hn : n ≤ 3) (hr : Rm A 14)
    (hret : ∀ h' tk' b u, Array.size b ≤ 46 → Over g { s with heap := h', toks := tk' } [(D, o2)] → Q (.bytes b u) { s with heap := h', toks := tk' }) :
    wpAny (MW w) A (call (.ref 296) [.ref D]) Q E s := by
  obtain ⟨hnd, dp, fr, gd, un⟩ := A
  obtain rfl : hnd = none := a.hh
  obtain rfl : fr = some outer := a.B.stack
  have X := a.X
  have T := a.T
  have B := a.B
  refine wpAny_call ?_
  refine' enter (binds := [(PySem.Str.ofString "some", .ref D)]) a ov ?k6 ?k7 ?k8 ?k9 ?kB ?_ ?c2 ?c3 ?c4 ?c5
  (case k6 => k_is)
  (case k7 => k_is)
  (case k8 => exact hr.depth)
  (case k9 => first | exact BindsTo.of_eq rfl | exact binds_K (a.X.keeps ov.st) rfl (by k_is) rfl rfl rfl)
  (case kB => exact locs rfl)
  (case c2 => exact rfl)
  (case c3 => exact rfl)
  (case c4 => exact rfl)
  (case c5 => decide)
  intro L F0 tk F N
  dsimp only [ifs, List.reverse, List.reverseAux] at F
  conv in (occs := *) fnBody _ => all_goals whnf
  conv in (occs := *) fnScope _ => all_goals whnf
  try dsimp only
  k_fold
  have hlen : kvs.length ≤ 3 := by rw [hk.len]; exact Nat.le_trans hs.1 hn
  iterate 12 (focus walk1)
  refine call_len_dict (no_mod T N (.head _)) (kda_dict N (.head _) hd) (by lia) ?_
  iterate 2 (focus walk1)
  refine w_num (c_num 0) (by assumption) (by assumption) (by assumption) (Rm.le (by assumption) (by decide)) (Int.natCast_nonneg _) (by lia) (fun h' tk' b' u' hb' F' N' => ?_) rfl
  iterate 10 (focus walk1)
  rename Fr _ _ _ _ => F2
  rename News _ _ _ _ => N2
  refine sorted_dict (no_mod T N2 (.head _)) rfl F2 N2 (.head _) hd (by lia) fun B c h' tk' vs ns hi hp F3 N3 lB => ?_
  refine iter_listUnr rfl F3 N3 (.head _) rfl rfl fun I lI => ?_
  refine listRest_ind (JMp kvs D B _ o2) ?hl ?h0 ?h1 _ _ _ ⟨_, _, ?z, ?v, ⟨rfl, rfl, trivial⟩, rfl⟩
  case z =>
    have := hi.length
    have := hp.length_eq
    rw [List.length_map] at this
    lia
  case v =>
    intro v hv
    obtain ⟨k, u, e, hk⟩ := ints_mem hi v hv
    exact ⟨k, u, e, hp.mem_iff.mp hk⟩
  case hl => exact fun l m n j => by obtain ⟨_, _, _, _, _, rfl⟩ := j; exact .head _
  case h0 =>
    intro m₂ news₂ J h₂ tk₂ F₂ N₂
    obtain ⟨out, t, h1, h2, hm, rfl⟩ := J
    replace F₂ : Fr g L h₂ _ := Fr_on F₂ hm
    dsimp only [ifsE] at F₂
    repeat (focus walk1)
    exact hret _ _ _ _ h1 ((Over.of (by assumption) (by assumption)).sub fun q hq => .tail _ hq)
  case h1 =>
    intro v r m₂ news₂ J it h₂ tk₂ F₂ N₂
    obtain ⟨out, t, h1, h2, hm, rfl⟩ := J
    obtain ⟨k, u, rfl, hk'⟩ := h2 v (.head _)
    obtain ⟨k0, k1, cs, tc, hx, hv⟩ := some_at hd hk hs hk'
    replace F₂ : Fr g L h₂ _ := Fr_on F₂ (l := [(PySem.Str.ofString "index", .int k u), (PySem.Str.ofString "out", .bytes out t), (PySem.Str.ofString "some", .ref D)]) ⟨rfl, hm⟩
    dsimp only [ifsE] at F₂
    rw [List.length_cons] at h1
    iterate 12 (focus walk1)
    refine w_num (c_num 1) (by assumption) (by assumption) (by assumption) (Rm.le (by assumption) (by decide)) k0 k1 (fun h' tk' b' u' hb' F' N' => ?_) rfl
    refine KBy.add_bytes (by lia) fun t' tk2 => ?_
    iterate 7 (focus walk1)
    refine kda_item (knd := PySem.intKind _ _) (by assumption) (by k_mem) hd (intKind_is _ _ _ _) hv ?_
    iterate 2 (focus walk1)
    refine w_ltold (by assumption) (by assumption) (by assumption) hx (Rm.le (by assumption) (by decide)) (fun h' tk' b' u' hb' F' N' => ?_) rfl
    refine KBy.add_bytes (by rw [Array.size_append]; lia) fun t' tk2 => ?_
    iterate 4 (focus walk1)
    rename Fr _ _ _ _ => F4
    rename News _ _ _ _ => N4
    refine UnrEnd.intro F4 N4 _ (fun q hq => hq) (fun q hq e => absurd e (Nat.ne_of_lt (lI q hq))) ⟨_, _, ?_, fun v hv => h2 v (.tail _ hv), ⟨rfl, rfl, trivial⟩, rfl⟩
    rw [Array.size_append, Array.size_append]; lia
end
-- Pe
section
variable {w : World} {mean : ExcName → Option Value} {mg mb : PySem.Str → Option Value} {A : Around} {base g hp : Heap} {outer : List Env} {gs : Array GenState} {dr : Drawn} {tk : Nat} {os : OsState} {Q E : Value → Shared → Prop} {D : Nat} {o2 : Obj}
  {L f' : Addr} {m : PySem.Str → Option Value} {news : List (Addr × Obj)} {gg : Obj → List (Addr × Obj)} {qual : PySem.Str} {scope : Scope} {cd : Value}
theorem w_lmap {n : Nat} {kvs : List (Int × Value)} {done : List (Int × List Int)} (a : Amb w mean mg mb A base outer g) (F : Fr g L hp m) (N : News g L hp news) (hm : (D, o2) ∈ news) (hd : o2.IsDictOf (PySem.intKind PySem.Challenge.pw_nm0124_01 w) kvs) (hk : KvS kvs done) (hs : SomeP n done) (hn : n ≤ 3) (hr : Rm A 15)
    (hret : ∀ h' tk' b u, Array.size b ≤ 46 → Fr g L h' m → News g L h' news → Q (.bytes b u) ⟨h', gs, dr, tk', os⟩)
    (hk' : scope.kind = .function) : wpAny (MW w) (A.deeper (envOf qual scope L f' cd)) (call (.ref 296) [.ref D]) Q E ⟨hp, gs, dr, tk, os⟩ := by
  have hin : ∀ p ∈ [(D, o2)], p ∈ news := fun p hp => by rw [List.mem_singleton.mp hp]; exact hm
  refine c_lmap (siteA (s := ⟨hp, gs, dr, tk, os⟩) a F N hin hk') (siteO (s := ⟨hp, gs, dr, tk, os⟩) N hin) hd hk hs hn hr.deeper fun h' tk' b u hb ov => ?_
  have hsub : ∀ q ∈ news, q ∈ [(D, o2)] ∨ (q ∈ news ∧ q.1 ∉ [(D, o2)].map (·.1)) := fun q hq => by
    by_cases e : q.1 = D
    · have h1 := (N q hq).1
      have h2 := (N _ hm).1
      rw [e, h2] at h1
      left
      rw [show q = (D, o2) from Prod.ext e (Option.some.inj h1).symm]
      exact .head _
    · exact .inr ⟨hq, fun z => e (List.mem_singleton.mp z)⟩
  obtain ⟨F', N'⟩ := site_back (s := ⟨hp, gs, dr, tk, os⟩) F N hin ov (news' := news) hsub
  exact hret h' tk' b u hb F' N'
end
section
variable {w : World} {mean : ExcName → Option Value} {mg mb : PySem.Str → Option Value} {A : Around} {base g : Heap} {outer : List Env} {s : Shared} {Q E : Value → Shared → Prop}
theorem c_lpart {sort : Int} {b : Array UInt8} {t u : Tok} (a : Amb w mean mg mb A base outer g) (ov : Over g s []) (h0 : 0 ≤ sort) (h1 : sort < 256) (hb : b.size ≤ 1000) (hr : Rm A 8)
    (hret : ∀ h' tk' b' u, Array.size b' ≤ b.size + 3 → Over g { s with heap := h', toks := tk' } [] → Q (.bytes b' u) { s with heap := h', toks := tk' }) :
    wpAny (MW w) A (call (.ref 303) [.int sort t, .bytes b u]) Q E s := by
  obtain ⟨hnd, dp, fr, gd, un⟩ := A
  obtain rfl : hnd = none := a.hh
  obtain rfl : fr = some outer := a.B.stack
  have X := a.X
  have T := a.T
  have B := a.B
  refine wpAny_call ?_
  refine' enter (binds := [(PySem.Str.ofString "sort", .int sort t), (PySem.Str.ofString "octets", .bytes b u)]) a ov ?k6 ?k7 ?k8 ?k9 ?kB ?_ ?c2 ?c3 ?c4 ?c5
  (case k6 => k_is)
  (case k7 => k_is)
  (case k8 => exact hr.depth)
  (case k9 => first | exact BindsTo.of_eq rfl | exact binds_K (a.X.keeps ov.st) rfl (by k_is) rfl rfl rfl)
  (case kB => exact locs rfl)
  (case c2 => exact rfl)
  (case c3 => exact rfl)
  (case c4 => exact rfl)
  (case c5 => decide)
  intro L F0 tk F N
  dsimp only [ifs, List.reverse, List.reverseAux] at F
  conv in (occs := *) fnBody _ => all_goals whnf
  conv in (occs := *) fnScope _ => all_goals whnf
  try dsimp only
  k_fold
  iterate 15 (focus walk1)
  iterate 13 (focus walk1)
  refine w_num (c_num 1) (by assumption) (by assumption) (by assumption) (Rm.le (by assumption) (by decide)) (Int.natCast_nonneg _) (by lia) (fun h' tk' b' u' hb' F' N' => ?_) rfl
  refine KBy.add_bytes (by show 1 + b'.size ≤ _; lia) fun t' tk2 => ?_
  iterate 1 (focus walk1)
  refine KBy.add_bytes (by rw [Array.size_append]; show 1 + b'.size + b.size ≤ _; lia) fun t' tk2 => ?_
  exact hret _ _ _ _ (by rw [Array.size_append, Array.size_append]; show 1 + b'.size + b.size ≤ _; lia) (Over.of (by assumption) News.nil)
end
-- Pf
theorem size_to {b : Array UInt8} {q : Int} (h0 : 0 ≤ q) (h1 : q < b.size + 1) : ((KBy.picked b none (some q)).size : Int) = q := by
  rw [KBc.picked_eq, List.size_toArray, List.length_take, List.length_drop, Array.length_toList]
  show ((min (clipAt b.size q - 0) (b.size - 0) : Nat) : Int) = q
  unfold clipAt
  rw [if_neg (by lia)]; lia
theorem size_from {b : Array UInt8} {q : Int} (h0 : 0 ≤ q) : ((KBy.picked b (some q) none).size : Int) ≤ b.size ∧ (q ≤ b.size → ((KBy.picked b (some q) none).size : Int) = b.size - q) ∧ ((KBy.picked b (some (q + 1)) none).size : Int) ≤ b.size ∧ (q ≤ b.size → ((KBy.picked b (some (q + 1)) none).size : Int) ≤ b.size - q) := by
  have e : ∀ q : Int, 0 ≤ q → ((KBy.picked b (some q) none).size : Int) = b.size - min q b.size := fun q h0 => by
    rw [KBc.picked_eq, List.size_toArray, List.length_take, List.length_drop, Array.length_toList]
    show ((min (b.size - clipAt b.size q) (b.size - clipAt b.size q) : Nat) : Int) = b.size - min q b.size
    unfold clipAt
    rw [if_neg (by lia)]; lia
  rw [e q h0, e (q + 1) (by lia)]
  refine ⟨by lia, fun h => by lia, by lia, fun h => by lia⟩
section
variable {w : World} {mean : ExcName → Option Value} {mg mb : PySem.Str → Option Value} {A : Around} {base g : Heap} {outer : List Env} {s : Shared} {Q E : Value → Shared → Prop}
theorem c_lchanged {way place value : Int} {b : Array UInt8} {t u t1 t2 : Tok} (a : Amb w mean mg mb A base outer g) (ov : Over g s []) (h0 : 0 ≤ value) (h1 : value < 256) (hb : b.size ≤ 900) (hr : Rm A 2)
    (hret : ∀ h' tk' b' u, Array.size b' ≤ b.size + 1 → Over g { s with heap := h', toks := tk' } [] → Q (.bytes b' u) { s with heap := h', toks := tk' }) :
    wpAny (MW w) A (call (.ref 317) [.bytes b u, .int way t, .int place t1, .int value t2]) Q E s := by
  obtain ⟨hnd, dp, fr, gd, un⟩ := A
  obtain rfl : hnd = none := a.hh
  obtain rfl : fr = some outer := a.B.stack
  have X := a.X
  have T := a.T
  have B := a.B
  refine wpAny_call ?_
  refine' enter (binds := [(PySem.Str.ofString "octets", .bytes b u), (PySem.Str.ofString "way", .int way t), (PySem.Str.ofString "place", .int place t1), (PySem.Str.ofString "value", .int value t2)]) a ov ?k6 ?k7 ?k8 ?k9 ?kB ?_ ?c2 ?c3 ?c4 ?c5
  (case k6 => k_is)
  (case k7 => k_is)
  (case k8 => exact hr.depth)
  (case k9 => first | exact BindsTo.of_eq rfl | exact binds_K (a.X.keeps ov.st) rfl (by k_is) rfl rfl rfl)
  (case kB => exact locs rfl)
  (case c2 => exact rfl)
  (case c3 => exact rfl)
  (case c4 => exact rfl)
  (case c5 => decide)
  intro L F0 tk F N
  dsimp only [ifs, List.reverse, List.reverseAux] at F
  conv in (occs := *) fnBody _ => all_goals whnf
  conv in (occs := *) fnScope _ => all_goals whnf
  try dsimp only
  k_fold
  iterate 18 (focus walk1)
  have hq := fm_in (n := place) (k := b.size + 1) (by lia)
  generalize place.fmod (↑b.size + 1) = q at *
  rename Fr _ _ _ _ => F1
  dsimp only at F1
  obtain ⟨q0, q1⟩ := hq
  have z0 := size_to q0 q1
  obtain ⟨z1, z2, z3, z4⟩ := size_from (b := b) q0
  have z2 := z2 (by lia)
  have z4 := z4 (by lia)
  iterate 19 (focus walk1)
  rotate_left
  iterate 22 (focus walk1)
  rotate_left
  iterate 19 (focus walk1)
  rotate_left
  iterate 7 (focus walk1)
  rotate_left
  all_goals refine KBc.slice_K (s := ⟨_, _, _, _, _⟩) (by assumption) (by assumption) rfl (by constructor) (by constructor) (by rw [KBw.ints_length]; lia) fun h' t' k F' N' _ => ?_
  · iterate 11 (focus walk1)
    refine KBy.add_bytes (by show _ + 1 ≤ _; lia) fun t' tk2 => ?_
    iterate 10 (focus walk1)
    refine KBc.slice_K (s := ⟨_, _, _, _, _⟩) (by assumption) (by assumption) rfl (by constructor) (by constructor) (by rw [KBw.ints_length]; lia) fun h' t' k F' N' _ => ?_
    refine KBy.add_bytes (by rw [Array.size_append]; show _ + 1 + _ ≤ _; lia) fun t' tk2 => ?_
    exact hret _ _ _ _ (by rw [Array.size_append, Array.size_append]; show _ + 1 + _ ≤ _; lia) (Over.of (by assumption) News.nil)
  · iterate 11 (focus walk1)
    refine KBy.add_bytes (by show _ + 1 ≤ _; lia) fun t' tk2 => ?_
    iterate 7 (focus walk1)
    refine KBc.slice_K (s := ⟨_, _, _, _, _⟩) (by assumption) (by assumption) rfl (by constructor) (by constructor) (by rw [KBw.ints_length]; lia) fun h' t' k F' N' _ => ?_
    refine KBy.add_bytes (by rw [Array.size_append]; show _ + 1 + _ ≤ _; lia) fun t' tk2 => ?_
    exact hret _ _ _ _ (by rw [Array.size_append, Array.size_append]; show _ + 1 + _ ≤ _; lia) (Over.of (by assumption) News.nil)
  · iterate 10 (focus walk1)
    refine KBc.slice_K (s := ⟨_, _, _, _, _⟩) (by assumption) (by assumption) rfl (by constructor) (by constructor) (by rw [KBw.ints_length]; lia) fun h' t' k F' N' _ => ?_
    refine KBy.add_bytes (by lia) fun t' tk2 => ?_
    exact hret _ _ _ _ (by rw [Array.size_append]; lia) (Over.of (by assumption) News.nil)
  · exact hret _ _ _ _ (by lia) (Over.of (by assumption) News.nil)
end
-- Pg
/-- the rows that the law builds -/
noncomputable def RowX (w : World) (kl : List (Int × Value)) (inn : List (Addr × Obj)) : Prop :=
  ∀ p ∈ kl, 0 ≤ p.1 ∧ p.1 < 2000 ∧ ∃ c oc kv done, p.2 = .ref c ∧ (c, oc) ∈ inn ∧ oc.IsDictOf (PySem.intKind PySem.Challenge.pw_nm0124_01 w) kv ∧ KvS kv done ∧ SomeP 2 done
theorem RowX.at {w : World} {o : Obj} {kl : List (Int × Value)} {inn : List (Addr × Obj)} {k : Int} (hd : o.IsDictOf (PySem.intKind PySem.Challenge.pw_nm0124_01 w) kl) (h : RowX w kl inn) (hm : k ∈ kl.map (·.1)) :
    0 ≤ k ∧ k < 128 ^ 2 ∧ ∃ c oc kv done, valueAt kl k = some (.ref c) ∧ (c, oc) ∈ inn ∧ oc.IsDictOf (PySem.intKind PySem.Challenge.pw_nm0124_01 w) kv ∧ KvS kv done ∧ SomeP 2 done := by
  obtain ⟨p, hp, rfl⟩ := List.mem_map.mp hm
  obtain ⟨h1, h2, c, oc, kv, done, e, h3⟩ := h p hp
  exact ⟨h1, Int.lt_trans h2 (by decide), c, oc, kv, done, valueAt_ref hd hp e, h3⟩
section
variable {w : World} {mean : ExcName → Option Value} {mg mb : PySem.Str → Option Value} {A : Around} {base g hp : Heap} {outer : List Env} {gs : Array GenState} {dr : Drawn} {tk : Nat} {os : OsState} {Q E : Value → Shared → Prop}
  {L f' : Addr} {m : PySem.Str → Option Value} {news : List (Addr × Obj)} {qual : PySem.Str} {scope : Scope} {cd : Value}
theorem w_lpart {sort : Int} {b : Array UInt8} {t u : Tok} (a : Amb w mean mg mb A base outer g) (F : Fr g L hp m) (N : News g L hp news) (h0 : 0 ≤ sort) (h1 : sort < 256) (hb : b.size ≤ 1000) (hr : Rm A 9)
    (hret : ∀ h' tk' b' u, Array.size b' ≤ b.size + 3 → Fr g L h' m → News g L h' news → Q (.bytes b' u) ⟨h', gs, dr, tk', os⟩)
    (hk : scope.kind = .function) : wpAny (MW w) (A.deeper (envOf qual scope L f' cd)) (call (.ref 303) [.int sort t, .bytes b u]) Q E ⟨hp, gs, dr, tk, os⟩ := by
  refine c_lpart (siteA (s := ⟨hp, gs, dr, tk, os⟩) a F N nin hk) (siteO (s := ⟨hp, gs, dr, tk, os⟩) N nin) h0 h1 hb hr.deeper fun h' tk' b u hb ov => ?_
  obtain ⟨F', N'⟩ := site_back (s := ⟨hp, gs, dr, tk, os⟩) F N nin ov (news' := news) (fun q hq => .inr ⟨hq, by simp⟩)
  exact hret h' tk' b u hb F' N'
/-- a dict compared with a new one -/
theorem ne_nil {A : Around} {d e : Addr} {o o' : Obj} {kl : List (Int × Value)} (T : Top view loose mean mg mb g) (N : News g L hp news) (m1 : (d, o) ∈ news) (m2 : (e, o') ∈ news) (d1 : o.IsDictOf (PySem.intKind PySem.Challenge.pw_nm0124_01 w) kl) (d2 : o'.IsDictOf (PySem.intKind PySem.Challenge.pw_nm0124_01 w) []) (hr : Rm A 2)
    (h : ∀ b, Q (.bool b) ⟨hp, gs, dr, tk, os⟩) : wpAny (MW w) A (compareOp .NotEq (.ref d) (.ref e)) Q E ⟨hp, gs, dr, tk, os⟩ := by
  have hu : A.units + 16 < cLine := hr.2
  refine keq_ne (r := true) (no_mod T N m1) (no_mod T N m2) (Heap.dictOf_iff.mpr ⟨o, (N _ m1).1, d1⟩) (Heap.dictOf_iff.mpr ⟨o', (N _ m2).1, d2⟩) (by lia) (fun z => ?_) (h _)
  obtain rfl : kl = [] := List.eq_nil_of_length_eq_zero z
  exact .nil
end
/-- where a statement of the builder ends: out is longer -/
noncomputable def OutP (g : Heap) (L : Addr) (news : List (Addr × Obj)) (l : List (PySem.Str × Value)) (B : Nat) (gs : Array GenState) (dr : Drawn) (os : OsState) (f : Flow) (s' : Shared) : Prop :=
  ∃ h' tk' m' out t, f = .next ∧ s' = ⟨h', gs, dr, tk', os⟩ ∧ Fr g L h' m' ∧ AllOn m' ((PySem.Str.ofString "out", .bytes out t) :: l) ∧ News g L h' news ∧ Array.size out ≤ B
theorem cut_out {M : Model} {A : Around} {t : Sem Flow} {E : Value → Shared → Prop} {Q : Flow → Shared → Prop} {g : Heap} {L : Addr} {news : List (Addr × Obj)} {l : List (PySem.Str × Value)} {B : Nat} {hp : Heap} {tk : Nat} {gs : Array GenState} {dr : Drawn} {os : OsState}
    (h : wpAny M A t (OutP g L news l B gs dr os) E ⟨hp, gs, dr, tk, os⟩) (k : ∀ h' tk' m' out t, Fr g L h' (ifsE ((PySem.Str.ofString "out", .bytes out t) :: l) m') → News g L h' news → Array.size out ≤ B → Q .next ⟨h', gs, dr, tk', os⟩) : wpAny M A t Q E ⟨hp, gs, dr, tk, os⟩ :=
  wpAny_mono h (fun _ _ ⟨h', tk', m', out, t, e1, e2, F, hm, N, hB⟩ => by subst e1 e2; exact k h' tk' m' out t (Fr_on F hm) N hB) fun _ _ e => e
-- Ph
inductive JWx (kl : List (Int × Value)) (l0 : List (PySem.Str × Value)) (nn : List (Addr × Obj)) (l : List Value) (m : PySem.Str → Option Value) (news : List (Addr × Obj)) : Prop
  | mk (inner : Array UInt8) (t : Tok) (h1 : inner.size + 48 * l.length ≤ 97) (h2 : ∀ v ∈ l, ∃ k u, v = .int k u ∧ k ∈ kl.map (·.1)) (hm : AllOn m ((PySem.Str.ofString "inner", .bytes inner t) :: l0)) (h4 : news = nn) : JWx kl l0 nn l m news
section
variable {w : World} {mean : ExcName → Option Value} {mg mb : PySem.Str → Option Value} {A : Around} {base g : Heap} {outer : List Env} {s : Shared} {Q E : Value → Shared → Prop} {D1 D2 : Nat} {o1 o2 : Obj}
theorem c_lwritten {mv : Value} {tt : Option (List Int)} {kvs kl : List (Int × Value)} {done : List (Int × List Int)} {inn : List (Addr × Obj)} (a : Amb w mean mg mb A base outer g) (ov : Over g s ((D1, o1) :: (D2, o2) :: inn)) (ht : ModV mv tt) (hx : ∀ cs, tt = some cs → okX cs)
    (d1 : o1.IsDictOf (PySem.intKind PySem.Challenge.pw_nm0124_01 w) kvs) (hk : KvS kvs done) (hs : SomeP 3 done) (d2 : o2.IsDictOf (PySem.intKind PySem.Challenge.pw_nm0124_01 w) kl) (hl : kl.length ≤ 2) (hR : RowX w kl inn) (hr : Rm A 16)
    (hret : ∀ h' tk' b u, Array.size b ≤ 170 → Over g { s with heap := h', toks := tk' } ((D1, o1) :: (D2, o2) :: inn) → Q (.bytes b u) { s with heap := h', toks := tk' }) :
    wpAny (MW w) A (call (.ref 310) [mv, .ref D1, .ref D2]) Q E s := by
  obtain ⟨hnd, dp, fr, gd, un⟩ := A
  obtain rfl : hnd = none := a.hh
  obtain rfl : fr = some outer := a.B.stack
  have X := a.X
  have T := a.T
  have B := a.B
  refine wpAny_call ?_
  refine' enter (binds := [(PySem.Str.ofString "title", mv), (PySem.Str.ofString "funcs", .ref D1), (PySem.Str.ofString "rows", .ref D2)]) a ov ?k6 ?k7 ?k8 ?k9 ?kB ?_ ?c2 ?c3 ?c4 ?c5
  (case k6 => k_is)
  (case k7 => k_is)
  (case k8 => exact hr.depth)
  (case k9 => first | exact BindsTo.of_eq rfl | exact binds_K (a.X.keeps ov.st) rfl (by k_is) rfl rfl rfl)
  (case kB => exact locs rfl)
  (case c2 => exact rfl)
  (case c3 => exact rfl)
  (case c4 => exact rfl)
  (case c5 => decide)
  intro L F0 tk F N
  dsimp only [ifs, List.reverse, List.reverseAux] at F
  conv in (occs := *) fnBody _ => all_goals whnf
  conv in (occs := *) fnScope _ => all_goals whnf
  try dsimp only
  k_fold
  have hlen : kvs.length ≤ 3 := by rw [hk.len]; exact hs.1
  iterate 1 (focus walk1)
  refine cut_out (B := 16) (l := [(PySem.Str.ofString "rows", .ref D2), (PySem.Str.ofString "funcs", .ref D1)]) (g := g) (L := L) (news := (D1, o1) :: (D2, o2) :: inn) ?c1 fun h' tk' m' out t F' N' hB => ?_
  case c1 =>
    cases tt with
    | none =>
      obtain rfl : mv = .none := ht
      repeat (focus walk1)
      exact ⟨_, _, _, _, _, rfl, rfl, by assumption, ⟨rfl, rfl, rfl, trivial⟩, by assumption, Nat.zero_le _⟩
    | some cs =>
      obtain ⟨t0, rfl⟩ := ht
      iterate 21 (focus walk1)
      refine w_ltold (by assumption) (by assumption) (by assumption) (hx _ rfl) (Rm.le (by assumption) (by decide)) (fun h' tk' b' u' hb' F' N' => ?_) rfl
      iterate 2 (focus walk1)
      refine w_lpart (by assumption) (by assumption) (by assumption) (by decide) (by decide) (by lia) (Rm.le (by assumption) (by decide)) (fun h' tk' b2 u2 hb2 F' N' => ?_) rfl
      repeat (focus walk1)
      exact ⟨_, _, _, _, _, rfl, rfl, by assumption, ⟨rfl, rfl, rfl, trivial⟩, by assumption, by lia⟩
  clear F N
  dsimp only [ifsE] at F'
  iterate 1 (focus walk1)
  refine cut_out (B := 65) (l := [(PySem.Str.ofString "rows", .ref D2)]) (g := g) (L := L) (news := (D1, o1) :: (D2, o2) :: inn) ?c2 fun h' tk' m' out t F' N' hB => ?_
  case c2 =>
    iterate 4 (focus walk1)
    refine ne_nil (by assumption) (by assumption) (.tail _ (.head _)) (.head _) d1 (by assumption) (Rm.deeper (Rm.le hr (by decide))) fun b => ?_
    cases b
    · repeat (focus walk1)
      exact ⟨_, _, _, _, _, rfl, rfl, by assumption, ⟨rfl, rfl, trivial⟩, News_sub (by assumption) fun q hq => .tail _ hq, by lia⟩
    · iterate 20 (focus walk1)
      refine w_lmap (by assumption) (by assumption) (by assumption) (by k_mem) d1 hk hs (by decide) (Rm.le (by assumption) (by decide)) (fun h' tk' b' u' hb' F' N' => ?_) rfl
      iterate 2 (focus walk1)
      refine w_lpart (by assumption) (by assumption) (by assumption) (by decide) (by decide) (by lia) (Rm.le (by assumption) (by decide)) (fun h' tk' b2 u2 hb2 F' N' => ?_) rfl
      refine KBy.add_bytes (by lia) fun t' tk2 => ?_
      repeat (focus walk1)
      exact ⟨_, _, _, _, _, rfl, rfl, by assumption, ⟨rfl, rfl, trivial⟩, News_sub (by assumption) fun q hq => .tail _ hq, by rw [Array.size_append]; lia⟩
  dsimp only [ifsE] at F'
  iterate 1 (focus walk1)
  refine cut_out (B := 165) (l := []) (g := g) (L := L) (news := (D1, o1) :: (D2, o2) :: inn) ?c3 fun h' tk' m' out t F' N' hB => ?_
  case c3 =>
    iterate 4 (focus walk1)
    refine ne_nil (by assumption) (by assumption) (.tail _ (.tail _ (.head _))) (.head _) d2 (by assumption) (Rm.deeper (Rm.le hr (by decide))) fun b => ?_
    cases b
    · repeat (focus walk1)
      exact ⟨_, _, _, _, _, rfl, rfl, by assumption, ⟨rfl, trivial⟩, News_sub (by assumption) fun q hq => .tail _ hq, by lia⟩
    · iterate 15 (focus walk1)
      rename News _ _ _ _ => N1
      refine call_len_dict (no_mod T N1 (.tail _ (.tail _ (.head _)))) (kda_dict N1 (.tail _ (.tail _ (.head _))) d2) (by lia) ?_
      iterate 2 (focus walk1)
      refine w_num (c_num 0) (by assumption) (by assumption) (by assumption) (Rm.le (by assumption) (by decide)) (Int.natCast_nonneg _) (by lia) (fun h' tk' b' u' hb' F' N' => ?_) rfl
      iterate 10 (focus walk1)
      rename Fr _ _ _ _ => F2
      rename News _ _ _ _ => N2
      replace N2 := News_sub N2 (fun q hq => List.Mem.tail _ hq)
      refine sorted_dict (no_mod T N2 (.tail _ (.head _))) rfl F2 N2 (.tail _ (.head _)) d2 (by lia) fun B c h' tk' vs ns hi hp F3 N3 lB => ?_
      refine iter_listUnr rfl F3 N3 (.head _) rfl rfl fun I lI => ?_
      refine listRest_ind (JWx kl [(PySem.Str.ofString "out", .bytes out t), (PySem.Str.ofString "rows", .ref D2)] ((B, _) :: (D1, o1) :: (D2, o2) :: inn)) ?hl ?h0 ?h1 _ _ _ ⟨_, _, ?z, ?v, ⟨rfl, rfl, rfl, trivial⟩, rfl⟩
      case z =>
        have := hi.length
        have := hp.length_eq
        rw [List.length_map] at this
        lia
      case v =>
        intro v hv
        obtain ⟨k, u, e, hk⟩ := ints_mem hi v hv
        exact ⟨k, u, e, hp.mem_iff.mp hk⟩
      case hl => exact fun l m n j => by obtain ⟨_, _, _, _, _, rfl⟩ := j; exact .head _
      case h0 =>
        intro m₂ news₂ J h₂ tk₂ F₂ N₂
        obtain ⟨inner, t2, h1, h2, hm, rfl⟩ := J
        replace F₂ : Fr g L h₂ _ := Fr_on F₂ hm
        dsimp only [ifsE] at F₂
        iterate 13 (focus walk1)
        refine w_lpart (by assumption) (by assumption) (by assumption) (by decide) (by decide) (by simp only [List.length_nil] at h1; lia) (Rm.le (by assumption) (by decide)) (fun h' tk' b2 u2 hb2 F' N' => ?_) rfl
        simp only [List.length_nil] at h1
        refine KBy.add_bytes (by lia) fun t' tk2 => ?_
        repeat (focus walk1)
        exact ⟨_, _, _, _, _, rfl, rfl, by assumption, ⟨rfl, trivial⟩, News_sub (by assumption) fun q hq => .tail _ hq, by rw [Array.size_append]; lia⟩
      case h1 =>
        intro v r m₂ news₂ J it h₂ tk₂ F₂ N₂
        obtain ⟨inner, t2, h1, h2, hm, rfl⟩ := J
        obtain ⟨k, u, rfl, hk'⟩ := h2 v (.head _)
        obtain ⟨k0, k1, c, oc, kv, dn, hv, hin, e1, e2, e3⟩ := hR.at d2 hk'
        replace F₂ : Fr g L h₂ _ := Fr_on F₂ (l := [(PySem.Str.ofString "func", .int k u), (PySem.Str.ofString "inner", .bytes inner t2), (PySem.Str.ofString "out", .bytes out t), (PySem.Str.ofString "rows", .ref D2)]) ⟨rfl, hm⟩
        dsimp only [ifsE] at F₂
        rw [List.length_cons] at h1
        iterate 12 (focus walk1)
        refine w_num (c_num 1) (by assumption) (by assumption) (by assumption) (Rm.le (by assumption) (by decide)) k0 k1 (fun h' tk' b' u' hb' F' N' => ?_) rfl
        refine KBy.add_bytes (by lia) fun t' tk2 => ?_
        iterate 7 (focus walk1)
        refine kda_item (knd := PySem.intKind _ _) (by assumption) (by k_mem) d2 (intKind_is _ _ _ _) hv ?_
        iterate 2 (focus walk1)
        refine w_lmap (by assumption) (by assumption) (by assumption) (.tail _ (.tail _ (.tail _ (.tail _ hin)))) e1 e2 e3 (by decide) (Rm.le (by assumption) (by decide)) (fun h' tk' b' u' hb' F' N' => ?_) rfl
        refine KBy.add_bytes (by rw [Array.size_append]; lia) fun t' tk2 => ?_
        iterate 4 (focus walk1)
        rename Fr _ _ _ _ => F4
        rename News _ _ _ _ => N4
        refine UnrEnd.intro F4 N4 _ (fun q hq => hq) (fun q hq e => absurd e (Nat.ne_of_lt (lI q hq))) ⟨_, _, ?_, fun v hv => h2 v (.tail _ hv), ⟨rfl, rfl, rfl, trivial⟩, rfl⟩
        rw [Array.size_append, Array.size_append]; lia
  dsimp only [ifsE] at F'
  repeat (focus walk1)
  exact hret _ _ _ _ (by lia) (Over.of (by assumption) (by assumption))
end
-- Qb
noncomputable abbrev lwEnv (L f : Addr) (cd : Value) : Env := envOf (PySem.Str.ofString "law") (fnScope (stAt 36)) L f cd
noncomputable abbrev lwSt (i : Nat) : Stmt := (fnBody (stAt 36)).getD i (.Pass default)
/-- the changes that the law drew -/
noncomputable def ChgX (vs : List Value) (objs : List (Addr × Obj)) : Prop :=
  ∀ v ∈ vs, ∃ c way place value t1 t2 t3, v = .ref c ∧ (c, { cls := .type "tuple", data := .seq #[.int way t1, .int place t2, .int value t3] }) ∈ objs ∧ 0 ≤ value ∧ value < 256
theorem ChgX.snoc {vs : List Value} {objs : List (Addr × Obj)} {c : Addr} {way place value : Int} {t1 t2 t3 : Tok} (h : ChgX vs objs) (hv : 0 ≤ value ∧ value < 256) :
    ChgX (vs ++ [.ref c]) ((c, { cls := .type "tuple", data := .seq #[.int way t1, .int place t2, .int value t3] }) :: objs) := fun v hm => by
  rcases List.mem_append.mp hm with hm | hm
  · obtain ⟨c, way, place, value, t1, t2, t3, e, hi, h⟩ := h v hm
    exact ⟨c, way, place, value, t1, t2, t3, e, .tail _ hi, h⟩
  · exact ⟨c, way, place, value, t1, t2, t3, List.mem_singleton.mp hm, .head _, hv⟩
theorem ch_sub {a b c e f q : Addr × Obj} {objs : List (Addr × Obj)} (h : q ∈ c :: e :: f :: a :: objs) : q ∈ a :: b :: c :: e :: f :: objs := by
  simp only [List.mem_cons] at h ⊢
  rcases h with h | h | h | h | h <;> simp [h]
noncomputable def Drw (q k : Int) : Prop := 0 ≤ q ∧ q < k
noncomputable def Off' (R : List (Addr × Obj)) (d : Nat) : Prop := ∀ p ∈ R, p.1 ≠ d
inductive JCh (d l I k i : Nat) (m : PySem.Str → Option Value) (news : List (Addr × Obj)) : Prop
  | mk (vs : List Value) (objs : List (Addr × Obj)) (o : Obj) (n : Nat) (h1 : vs.length + k ≤ 3) (h2 : ChgX vs objs) (h3 : Tape o) (h4 : ∀ p ∈ objs, p.1 ≠ d) (h5 : ∀ p ∈ objs, p.1 ≠ l) (h7 : ∀ p ∈ objs, p.1 ≠ I) (hm : AllOn m [(PySem.Str.ofString "changes", .ref l), (PySem.Str.ofString "tape", .ref d)]) (h6 : news = (l, listOf vs.toArray n) :: (d, o) :: objs) : JCh d l I k i m news
section
variable {w : World} {mean : ExcName → Option Value} {mg mb : PySem.Str → Option Value} {A : Around} {base g hp : Heap} {outer : List Env} {gs : Array GenState} {dr : Drawn} {tk : Nat} {os : OsState} {Q : Flow → Shared → Prop} {E : Value → Shared → Prop} {L f d l : Nat} {cd : Value} {m : PySem.Str → Option Value} {o : Obj}
theorem law2 (a : Amb w mean mg mb A base outer g) (hr : Rm A 50) (hdl : @LT.lt Nat _ d l) (F : Fr g L hp m) (N : News g L hp [(l, listOf #[] 0), (d, o)]) (ht : Tape o) (hm : AllOn m [(PySem.Str.ofString "changes", .ref l), (PySem.Str.ofString "tape", .ref d)])
    (k : ∀ h' tk' m' vs objs o' n, vs.length ≤ 3 → ChgX vs objs → Tape o' → (∀ p ∈ objs, p.1 ≠ d) → Fr g L h' m' → AllOn m' [(PySem.Str.ofString "changes", .ref l), (PySem.Str.ofString "tape", .ref d)] → News g L h' ((l, listOf vs.toArray n) :: (d, o') :: objs) → Q .next ⟨h', gs, dr, tk', os⟩) :
    wpAny (MW w) (A.deeper (lwEnv L f cd)) (exec (lwSt 2) (lwEnv L f cd)) Q (fun e s' => wpAny (MW w) (A.deeper (lwEnv L f cd)) (leaving (lwEnv L f cd) e) (fun _ s'' => E e s'') (fun e' s'' => E e' s'') s') ⟨hp, gs, dr, tk, os⟩ := by
  obtain ⟨hnd, dp, fr, gd, un⟩ := A
  obtain rfl : hnd = none := a.hh
  obtain rfl : fr = some outer := a.B.stack
  have X := a.X
  have T := a.T
  have B := a.B
  unfold lwEnv
  conv in lwSt _ => whnf
  conv in (occs := *) fnScope _ => all_goals whnf
  replace F := Fr_on F hm
  dsimp only [ifsE] at F
  refine' For_invVF F ?k1 ?k2 ?_
  (case k1 => exact rfl)
  (case k2 => exact rfl)
  iterate 12 (focus walk1)
  refine w_next a (by assumption) (by assumption) (.tail _ (.head _)) (by k_updF) ht (hr.le (by decide)) (fun h' tk' n' t' o' ht' F' N' => ?_) rfl
  iterate 3 (focus walk1)
  have hq : Drw (Int.fmod n' 4) 4 := fm_in (by decide)
  generalize Int.fmod n' 4 = q at *
  iterate 1 (focus walk1)
  obtain ⟨q0, q3⟩ := hq
  rename IsRange _ _ _ _ _ _ _ _ => hR
  rename Fr _ _ _ _ => F3
  rename News _ _ _ _ => N3
  refine iter_rangeUnr rfl hR (small_one (by decide) (by decide) (by lia) (by lia)) (rangeSize_nat _ _) F3 N3 fun I lI => ?_
  (repeat (rename Fr _ _ _ _ => zz; clear zz)); (repeat (rename News _ _ _ _ => zz; clear zz))
  k_lt lI
  refine rangeRest_ind (JCh d l I) ?h0 ?h1 _ _ _ _ ⟨[], [], _, _, by simp only [List.length_nil]; lia, (fun _ h => nomatch h), ht', (fun _ h => nomatch h), (fun _ h => nomatch h), (fun _ h => nomatch h), ⟨rfl, rfl, trivial⟩, rfl⟩
  case h0 =>
    intro _ m₂ news₂ J h₂ tk₂ F₂ N₂
    obtain ⟨vs, objs, o₁, n, hl, hc, ht₁, h4, h5, h7, hm, rfl⟩ := J
    exact k _ _ _ _ _ _ _ hl hc ht₁ h4 F₂ hm N₂
  case h1 =>
    intro k j m₂ news₂ J u h₂ tk₂ F₂ N₂
    obtain ⟨vs, objs, o₁, n, hl, hc, ht₁, h4, h5, h7, hm, rfl⟩ := J
    replace F₂ : Fr g L h₂ _ := Fr_on F₂ (l := [(PySem.Str.ofString "turn", .int _ u), (PySem.Str.ofString "changes", .ref l), (PySem.Str.ofString "tape", .ref d)]) ⟨rfl, hm⟩
    dsimp only [ifsE] at F₂
    iterate 12 (focus walk1)
    refine w_next a (by assumption) (by assumption) (.tail _ (.tail _ (.head _))) (.tail (by k_ne) (.tail (by k_ne) (.head h4))) ht₁ (hr.le (by decide)) (fun h' tk' n' t' o' ht' F' N' => ?_) rfl
    iterate 10 (focus walk1)
    refine w_next a (by assumption) (by assumption) (.tail _ (.tail _ (.head _))) (.tail (by k_ne) (.tail (by k_ne) (.head h4))) ht' (hr.le (by decide)) (fun h' tk' n' t' o' ht' F' N' => ?_) rfl
    iterate 32 (focus walk1)
    refine w_next a (by assumption) (by assumption) (.tail _ (.tail _ (.tail _ (.head _)))) (.tail (by k_ne) (.tail (by k_ne) (.tail (by k_ne) (.head h4)))) ht' (hr.le (by decide)) (fun h' tk' n' t' o' ht' F' N' => ?_) rfl
    iterate 5 (focus walk1)
    refine append_K (D := l) (its := vs.toArray) (by assumption) (by assumption) (.tail (by k_ne) (.tail (by k_ne) (.tail (by k_ne) (.head (List.forall_mem_cons.mpr ⟨by k_ne, h5⟩))))) (fun h' F' N' => ?_) (by rw [sizeLine_eq, List.size_toArray]; lia)
    iterate 3 (focus walk1)
    rename Fr _ _ _ _ => F4
    rename News _ _ _ _ => N4
    rw [List.push_toArray] at N4
    refine UnrEnd.intro F4 N4 (_ :: _ :: _ :: objs) (fun q hq => ch_sub hq) ?_ ⟨_, _, _, _, ?_, hc.snoc (fm_in (by decide)), ht', ?_, ?_, ?_, ⟨rfl, rfl, trivial⟩, rfl⟩
    · refine List.forall_mem_cons.mpr ⟨by k_ne, List.forall_mem_cons.mpr ⟨by k_ne, List.forall_mem_cons.mpr ⟨by k_ne, h7⟩⟩⟩
    · rw [List.length_append, List.length_singleton]; lia
    · exact List.forall_mem_cons.mpr ⟨by k_ne, h4⟩
    · exact List.forall_mem_cons.mpr ⟨by k_ne, h5⟩
    · exact List.forall_mem_cons.mpr ⟨by k_ne, h7⟩
end
-- Qc
noncomputable def TitleP (hp : Heap) (gs : Array GenState) (dr : Drawn) (os : OsState) (v : Value) (s' : Shared) : Prop := ∃ tt tk, s' = ⟨hp, gs, dr, tk, os⟩ ∧ ModV v tt ∧ ∀ cs, tt = some cs → okX cs
theorem cut_title {M : Model} {A : Around} {t : Sem Value} {E : Value → Shared → Prop} {Q : Value → Shared → Prop} {hp : Heap} {gs : Array GenState} {dr : Drawn} {tk : Nat} {os : OsState} (h : wpAny M A t (TitleP hp gs dr os) E ⟨hp, gs, dr, tk, os⟩) (k : ∀ v tt tk, ModV v tt → (∀ cs, tt = some cs → okX cs) → Q v ⟨hp, gs, dr, tk, os⟩) : wpAny M A t Q E ⟨hp, gs, dr, tk, os⟩ :=
  wpAny_mono h (fun _ _ ⟨tt, tk, e, h1, h2⟩ => by subst e; exact k _ tt tk h1 h2) fun _ _ e => e
theorem okX_nil : okX [] := ⟨Nat.zero_le _, fun _ h => nomatch h⟩
section
variable {w : World} {mean : ExcName → Option Value} {mg mb : PySem.Str → Option Value} {A : Around} {base g hp : Heap} {outer : List Env} {gs : Array GenState} {dr : Drawn} {tk : Nat} {os : OsState} {Q : Flow → Shared → Prop} {E : Value → Shared → Prop} {L f d l : Nat} {cd : Value} {m : PySem.Str → Option Value} {o : Obj} {R : List (Addr × Obj)}
theorem law3 (a : Amb w mean mg mb A base outer g) (hr : Rm A 50) (hR : ∀ p ∈ R, p.1 ≠ d) (F : Fr g L hp m) (N : News g L hp ((d, o) :: R)) (ht : Tape o) (hm : AllOn m [(PySem.Str.ofString "changes", .ref l), (PySem.Str.ofString "tape", .ref d)])
    (k : ∀ h' tk' m' mv tt o', ModV mv tt → (∀ cs, tt = some cs → okX cs) → Tape o' → Fr g L h' m' → AllOn m' [(PySem.Str.ofString "title", mv), (PySem.Str.ofString "changes", .ref l), (PySem.Str.ofString "tape", .ref d)] → News g L h' ((d, o') :: R) → Q .next ⟨h', gs, dr, tk', os⟩) :
    wpAny (MW w) (A.deeper (lwEnv L f cd)) (exec (lwSt 3) (lwEnv L f cd)) Q (fun e s' => wpAny (MW w) (A.deeper (lwEnv L f cd)) (leaving (lwEnv L f cd) e) (fun _ s'' => E e s'') (fun e' s'' => E e' s'') s') ⟨hp, gs, dr, tk, os⟩ := by
  obtain ⟨hnd, dp, fr, gd, un⟩ := A
  obtain rfl : hnd = none := a.hh
  obtain rfl : fr = some outer := a.B.stack
  have X := a.X
  have T := a.T
  have B := a.B
  unfold lwEnv
  conv in lwSt _ => whnf
  conv in (occs := *) fnScope _ => all_goals whnf
  replace F := Fr_on F hm
  dsimp only [ifsE] at F
  iterate 11 (focus walk1)
  refine w_ltext a (by assumption) (by assumption) (.head _) (.head hR) ht (hr.le (by decide)) (fun h' tk' cs t o' hx ht' F' N' => ?_) rfl
  iterate 14 (focus walk1)
  refine w_next a (by assumption) (by assumption) (.tail _ (.head _)) (.tail (by k_ne) (.head hR)) ht' (hr.le (by decide)) (fun h' tk' n' t' o' ht' F' N' => ?_) rfl
  iterate 3 (focus walk1)
  have hq := fm_in (n := n') (k := 3) (by decide)
  generalize Int.fmod n' 3 = q at *
  dsimp only
  refine cut_title ?c fun v tt tk' h1 h2 => ?_
  case c =>
    have h3 : q = 0 ∨ q = 1 ∨ q = 2 := by lia
    rcases h3 with rfl | rfl | rfl
    · k_steps
      exact ⟨some cs, _, rfl, ⟨_, rfl⟩, fun _ h => by cases h; exact hx⟩
    · k_steps
      exact ⟨none, _, rfl, rfl, fun _ h => nomatch h⟩
    · k_steps
      exact ⟨some [], _, rfl, ⟨_, by with_unfolding_all rfl⟩, fun _ h => by cases h; exact okX_nil⟩
  iterate 1 (focus walk1)
  exact k _ _ _ _ _ _ h1 h2 ht' (by assumption) ⟨rfl, rfl, rfl, trivial⟩ (News_sub (by assumption) fun q hq => .tail _ hq)
end
-- Qd
theorem fillL1 : (fun (_ : OpenLaw) (_ : Params → Frag) => True) PySem.Challenge.rw_nm0124_01 K := by k_fill; trivial
section
variable {w : World} {mean : ExcName → Option Value} {mg mb : PySem.Str → Option Value} {A : Around} {base g hp : Heap} {outer : List Env} {gs : Array GenState} {dr : Drawn} {tk : Nat} {os : OsState} {Q E : Value → Shared → Prop} {d : Nat} {o : Obj}
  {L f' : Addr} {m : PySem.Str → Option Value} {news : List (Addr × Obj)} {gg : Obj → List (Addr × Obj)} {qual : PySem.Str} {scope : Scope} {cd : Value}
theorem w_lsome {nn : Nat} {t : Tok} (a : Amb w mean mg mb A base outer g) (F : Fr g L hp m) (N : News g L hp news) (hm : (d, o) ∈ news) (U : UpdF d o news gg) (ht : Tape o) (hn : nn ≤ 3) (hr : Rm A 8)
    (hret : ∀ h' tk' D o2 kvs done o', (∀ p ∈ news, p.1 ≠ D) → o2.IsDictOf (PySem.intKind PySem.Challenge.pw_nm0124_01 w) kvs → KvS kvs done → SomeP nn done → Tape o' → Fr g L h' m → News g L h' ((D, o2) :: gg o') → Q (.ref D) ⟨h', gs, dr, tk', os⟩)
    (hk : scope.kind = .function) : wpAny (MW w) (A.deeper (envOf qual scope L f' cd)) (call (.ref 289) [.ref d, .int nn t]) Q E ⟨hp, gs, dr, tk, os⟩ := by
  have hin : ∀ p ∈ [(d, o)], p ∈ news := fun p hp => by rw [List.mem_singleton.mp hp]; exact hm
  refine c_lsome (siteA (s := ⟨hp, gs, dr, tk, os⟩) a F N hin hk) (siteO (s := ⟨hp, gs, dr, tk, os⟩) N hin) ht hn hr.deeper fun h' tk' D o2 kvs done o' hne hd hk' hs ht' ov => ?_
  have h0 := (ov.O _ (.head _)).2
  obtain ⟨F', N'⟩ := site_back (s := ⟨hp, gs, dr, tk, os⟩) (news' := (D, o2) :: gg o') F N hin ov fun p hp => by
    rcases List.mem_cons.mp hp with rfl | hp
    · exact .inl (.head _)
    · exact (updF_or (h := h') (g := g) (L := L) U p hp).imp (fun h => .tail _ h) id
  refine hret h' tk' D o2 kvs done o' (fun p hp e => ?_) hd hk' hs ht' F' N'
  by_cases q : p.1 = d
  · exact hne (e.symm.trans q)
  · have h1 := hideAll_get [d] (N p hp).1 fun z => q (List.mem_singleton.mp z)
    rw [e] at h1
    cases (show none = some p.2 from h0.symm.trans h1)
theorem w_lwritten {D1 D2 : Nat} {o1 o2 : Obj} {mv : Value} {tt : Option (List Int)} {kvs kl : List (Int × Value)} {done : List (Int × List Int)} {inn : List (Addr × Obj)} (a : Amb w mean mg mb A base outer g) (F : Fr g L hp m) (N : News g L hp ((D1, o1) :: (D2, o2) :: inn)) (ht : ModV mv tt) (hx : ∀ cs, tt = some cs → okX cs)
    (d1 : o1.IsDictOf (PySem.intKind PySem.Challenge.pw_nm0124_01 w) kvs) (hk : KvS kvs done) (hs : SomeP 3 done) (d2 : o2.IsDictOf (PySem.intKind PySem.Challenge.pw_nm0124_01 w) kl) (hl : kl.length ≤ 2) (hR : RowX w kl inn) (hr : Rm A 17)
    (hret : ∀ h' tk' b u, Array.size b ≤ 170 → Fr g L h' m → News g L h' ((D1, o1) :: (D2, o2) :: inn) → Q (.bytes b u) ⟨h', gs, dr, tk', os⟩)
    (hk' : scope.kind = .function) : wpAny (MW w) (A.deeper (envOf qual scope L f' cd)) (call (.ref 310) [mv, .ref D1, .ref D2]) Q E ⟨hp, gs, dr, tk, os⟩ := by
  have hin : ∀ p ∈ (D1, o1) :: (D2, o2) :: inn, p ∈ (D1, o1) :: (D2, o2) :: inn := fun p hp => hp
  refine c_lwritten (siteA (s := ⟨hp, gs, dr, tk, os⟩) a F N hin hk') (siteO (s := ⟨hp, gs, dr, tk, os⟩) N hin) ht hx d1 hk hs d2 hl hR hr.deeper fun h' tk' b u hb ov => ?_
  obtain ⟨F', N'⟩ := site_back (s := ⟨hp, gs, dr, tk, os⟩) F N hin ov (fun p hp => .inl hp)
  exact hret h' tk' b u hb F' N'
theorem w_lchanged {way place value : Int} {b : Array UInt8} {t u t1 t2 : Tok} (a : Amb w mean mg mb A base outer g) (F : Fr g L hp m) (N : News g L hp news) (h0 : 0 ≤ value) (h1 : value < 256) (hb : b.size ≤ 900) (hr : Rm A 3)
    (hret : ∀ h' tk' b' u, Array.size b' ≤ b.size + 1 → Fr g L h' m → News g L h' news → Q (.bytes b' u) ⟨h', gs, dr, tk', os⟩)
    (hk : scope.kind = .function) : wpAny (MW w) (A.deeper (envOf qual scope L f' cd)) (call (.ref 317) [.bytes b u, .int way t, .int place t1, .int value t2]) Q E ⟨hp, gs, dr, tk, os⟩ := by
  refine c_lchanged (siteA (s := ⟨hp, gs, dr, tk, os⟩) a F N nin hk) (siteO (s := ⟨hp, gs, dr, tk, os⟩) N nin) h0 h1 hb hr.deeper fun h' tk' b u hb ov => ?_
  obtain ⟨F', N'⟩ := site_back (s := ⟨hp, gs, dr, tk, os⟩) F N nin ov (news' := news) (fun q hq => .inr ⟨hq, by simp⟩)
  exact hret h' tk' b u hb F' N'
end
-- Qe
theorem fillL2 : (fun (_ : OpenLaw) (_ : Params → Frag) => True) PySem.Challenge.rw_nm0124_01 K := by k_fill; trivial
noncomputable abbrev lwN (D1 l : Addr) (mv : Value) : List (PySem.Str × Value) := [(PySem.Str.ofString "funcs", .ref D1), (PySem.Str.ofString "title", mv), (PySem.Str.ofString "changes", .ref l)]
inductive JRw (w : World) (d D2 I D1 l : Nat) (mv : Value) (R0 : List (Addr × Obj)) (k i : Nat) (m : PySem.Str → Option Value) (news : List (Addr × Obj)) : Prop
  | mk (x : Int) (t : Tok) (kl : List (Int × Value)) (o o2 : Obj) (R : List (Addr × Obj)) (h0 : -1 ≤ x) (h1 : x + 300 * k ≤ 899) (h2 : kl.length + k ≤ 2) (h3 : ∀ p ∈ kl, p.1 ≤ x) (h4 : RowX w kl R) (h5 : o2.IsDictOf (PySem.intKind PySem.Challenge.pw_nm0124_01 w) kl) (h6 : Tape o)
    (r0 : ∀ p ∈ R0, p ∈ R) (r1 : ∀ p ∈ R, p.1 ≠ d) (r2 : ∀ p ∈ R, p.1 ≠ D2) (r3 : ∀ p ∈ R, p.1 ≠ I) (hm : AllOn m ((PySem.Str.ofString "func", .int x t) :: (PySem.Str.ofString "rows", .ref D2) :: (PySem.Str.ofString "tape", .ref d) :: lwN D1 l mv)) (h7 : news = (d, o) :: (D2, o2) :: R) : JRw w d D2 I D1 l mv R0 k i m news
theorem SomeP.le {n k : Nat} {done : List (Int × List Int)} (h : SomeP n done) (hk : n ≤ k) : SomeP k done := ⟨Nat.le_trans h.1 hk, h.2⟩
theorem jr_sub {a b c e q : Addr × Obj} {R : List (Addr × Obj)} (h : q ∈ b :: c :: e :: a :: R) : q ∈ a :: b :: c :: e :: R := by
  simp only [List.mem_cons] at h ⊢
  rcases h with h | h | h | h | h <;> simp [h]
theorem jr_next {w : World} {d D2 I D1 l : Nat} {mv : Value} {R0 R : List (Addr × Obj)} {k i : Nat} {m : PySem.Str → Option Value} {x n : Int} {kl kv : List (Int × Value)} {done : List (Int × List Int)} {D : Addr} {o o2 oc : Obj} {ti : Tok}
    (h0 : -1 ≤ x) (h1 : x + 300 * (k + 1 : Nat) ≤ 899) (h2 : kl.length + (k + 1) ≤ 2) (h3 : ∀ p ∈ kl, p.1 ≤ x) (h4 : RowX w kl R) (h5 : o2.IsDictOf (PySem.intKind PySem.Challenge.pw_nm0124_01 w) (stored kl (x + 1 + n.fmod 300) (.ref D))) (h6 : Tape o)
    (r0 : ∀ p ∈ R0, p ∈ R) (r1 : ∀ p ∈ R, p.1 ≠ d) (r2 : ∀ p ∈ R, p.1 ≠ D2) (r3 : ∀ p ∈ R, p.1 ≠ I) (hm : AllOn m ((PySem.Str.ofString "func", .int (x + 1 + n.fmod 300) ti) :: (PySem.Str.ofString "rows", .ref D2) :: (PySem.Str.ofString "tape", .ref d) :: lwN D1 l mv))
    (hd : oc.IsDictOf (PySem.intKind PySem.Challenge.pw_nm0124_01 w) kv) (hk : KvS kv done) (hs : SomeP 2 done) (n1 : @Ne Nat d D) (n2 : @Ne Nat D2 D) (n3 : @Ne Nat I D) : JRw w d D2 I D1 l mv R0 k i m ((d, o) :: (D2, o2) :: (D, oc) :: R) := by
  obtain ⟨q0, q1⟩ := fm_in (n := n) (k := 300) (by decide)
  rw [stored_new (fun p hp => by have := h3 p hp; lia)] at h5
  refine ⟨_, _, _, _, _, (D, oc) :: R, by lia, by lia, ?_, fun p hp => ?_, fun p hp => ?_, h5, h6, fun p hp => .tail _ (r0 p hp), List.forall_mem_cons.mpr ⟨n1.symm, r1⟩, List.forall_mem_cons.mpr ⟨n2.symm, r2⟩, List.forall_mem_cons.mpr ⟨n3.symm, r3⟩, hm, rfl⟩
  · rw [List.length_append]; simp; lia
  · rcases List.mem_append.mp hp with hp | hp
    · have := h3 p hp; lia
    · rw [List.mem_singleton.mp hp]; exact Int.le_refl _
  · rcases List.mem_append.mp hp with hp | hp
    · obtain ⟨a1, a2, c, oc, kv, done, e, hi, h⟩ := h4 p hp
      exact ⟨a1, a2, c, oc, kv, done, e, .tail _ hi, h⟩
    · rw [List.mem_singleton.mp hp]
      exact ⟨by show 0 ≤ x + 1 + n.fmod 300; lia, by show x + 1 + n.fmod 300 < 2000; lia, D, oc, kv, done, rfl, .head _, hd, hk, hs⟩
section
variable {w : World} {mean : ExcName → Option Value} {mg mb : PySem.Str → Option Value} {A : Around} {base g hp : Heap} {outer : List Env} {gs : Array GenState} {dr : Drawn} {tk : Nat} {os : OsState} {Q : Flow → Shared → Prop} {E : Value → Shared → Prop} {L f d l D1 D2 : Nat} {cd : Value} {m : PySem.Str → Option Value} {o o2 : Obj} {R0 : List (Addr × Obj)} {mv : Value}
theorem law6 (a : Amb w mean mg mb A base outer g) (hr : Rm A 50) (hdD : @Ne Nat d D2) (r1 : ∀ p ∈ R0, p.1 ≠ d) (r2 : ∀ p ∈ R0, p.1 ≠ D2) (F : Fr g L hp m) (N : News g L hp ((d, o) :: (D2, o2) :: R0)) (ht : Tape o) (h5 : o2.IsDictOf (PySem.intKind PySem.Challenge.pw_nm0124_01 w) []) {t0 : Tok}
    (hm : AllOn m ((PySem.Str.ofString "func", .int (-1) t0) :: (PySem.Str.ofString "rows", .ref D2) :: (PySem.Str.ofString "tape", .ref d) :: lwN D1 l mv))
    (k : ∀ h' tk' m' o' o2' kl R, kl.length ≤ 2 → o2'.IsDictOf (PySem.intKind PySem.Challenge.pw_nm0124_01 w) kl → RowX w kl R → Tape o' → (∀ p ∈ R0, p ∈ R) → (∀ p ∈ R, p.1 ≠ d) → Fr g L h' m' → AllOn m' ((PySem.Str.ofString "rows", .ref D2) :: (PySem.Str.ofString "tape", .ref d) :: lwN D1 l mv) → News g L h' ((d, o') :: (D2, o2') :: R) → Q .next ⟨h', gs, dr, tk', os⟩) :
    wpAny (MW w) (A.deeper (lwEnv L f cd)) (exec (lwSt 6) (lwEnv L f cd)) Q (fun e s' => wpAny (MW w) (A.deeper (lwEnv L f cd)) (leaving (lwEnv L f cd) e) (fun _ s'' => E e s'') (fun e' s'' => E e' s'') s') ⟨hp, gs, dr, tk, os⟩ := by
  obtain ⟨hnd, dp, fr, gd, un⟩ := A
  obtain rfl : hnd = none := a.hh
  obtain rfl : fr = some outer := a.B.stack
  have X := a.X
  have T := a.T
  have B := a.B
  unfold lwEnv
  conv in lwSt _ => whnf
  conv in (occs := *) fnScope _ => all_goals whnf
  replace F := Fr_on F hm
  dsimp only [ifsE] at F
  refine' For_invVF F ?k1 ?k2 ?_
  (case k1 => exact rfl)
  (case k2 => exact rfl)
  iterate 13 (focus walk1)
  refine w_next a (by assumption) (by assumption) (.head _) (.head (List.forall_mem_cons.mpr ⟨by k_ne, r1⟩)) ht (hr.le (by decide)) (fun h' tk' n' t' o' ht' F' N' => ?_) rfl
  iterate 5 (focus walk1)
  have hq : Drw (Int.fmod (n' + 1) 3) 3 := fm_in (by decide)
  generalize Int.fmod (n' + 1) 3 = q at *
  iterate 1 (focus walk1)
  obtain ⟨q0, q3⟩ := hq
  rename IsRange _ _ _ _ _ _ _ _ => hR
  rename Fr _ _ _ _ => F3
  rename News _ _ _ _ => N3
  refine iter_rangeUnr rfl hR (small_one (by decide) (by decide) (by lia) (by lia)) (rangeSize_nat _ _) F3 N3 fun I lI => ?_
  (repeat (rename Fr _ _ _ _ => zz; clear zz)); (repeat (rename News _ _ _ _ => zz; clear zz))
  have lI' : ∀ p ∈ R0, p.1 ≠ I := fun p hp => Nat.ne_of_lt (lI p (.tail _ (.tail _ hp)))
  k_lt lI
  refine rangeRest_ind (JRw w d D2 I D1 l mv R0) ?h0 ?h1 _ _ _ _ ⟨-1, _, [], _, _, R0, by decide, by lia, by simp only [List.length_nil]; lia, (fun _ h => nomatch h), (fun _ h => nomatch h), h5, ht', (fun _ h => h), r1, r2, lI', ⟨rfl, rfl, rfl, rfl, rfl, rfl, trivial⟩, rfl⟩
  case h0 =>
    intro _ m₂ news₂ J h₂ tk₂ F₂ N₂
    obtain ⟨x, t, kl, o₁, o₂, R, b0, b1, b2, b3, b4, b5, ht₁, s0, s1, s2, s3, hm, rfl⟩ := J
    exact k _ _ _ _ _ _ _ b2 b5 b4 ht₁ s0 s1 F₂ hm.2 N₂
  case h1 =>
    intro k j m₂ news₂ J u h₂ tk₂ F₂ N₂
    obtain ⟨x, t, kl, o₁, o₂, R, b0, b1, b2, b3, b4, b5, ht₁, s0, s1, s2, s3, hm, rfl⟩ := J
    replace F₂ : Fr g L h₂ _ := Fr_on F₂ (l := (PySem.Str.ofString "turn", .int _ u) :: (PySem.Str.ofString "func", .int x t) :: (PySem.Str.ofString "rows", .ref D2) :: (PySem.Str.ofString "tape", .ref d) :: lwN D1 l mv) ⟨rfl, hm⟩
    dsimp only [ifsE] at F₂
    iterate 15 (focus walk1)
    refine w_next a (by assumption) (by assumption) (.tail _ (.head _)) (.tail (by k_ne) (.head (List.forall_mem_cons.mpr ⟨by k_ne, s1⟩))) ht₁ (hr.le (by decide)) (fun h' tk' n' t' o' ht' F' N' => ?_) rfl
    iterate 21 (focus walk1)
    refine w_next a (by assumption) (by assumption) (.tail _ (.head _)) (.tail (by k_ne) (.head (List.forall_mem_cons.mpr ⟨by k_ne, s1⟩))) ht' (hr.le (by decide)) (fun h' tk' n2 t' o' ht' F' N' => ?_) rfl
    iterate 4 (focus walk1)
    obtain ⟨nn, e, hn⟩ : ∃ nn : Nat, n2.fmod 3 = nn ∧ nn ≤ 2 := by
      have := fm_in (n := n2) (k := 3) (by decide)
      exact ⟨(n2.fmod 3).toNat, by lia, by lia⟩
    rw [e]
    refine w_lsome a (by assumption) (by assumption) (.tail _ (.head _)) (.tail (by k_ne) (.head (List.forall_mem_cons.mpr ⟨by k_ne, s1⟩))) ht' (Nat.le_succ_of_le hn) (hr.le (by decide)) (fun h' tk' D oc kv done o' hof hdc hkc hsc ht' F' N' => ?_) rfl
    have n1 : @Ne Nat I D := hof _ (.head _)
    have n2 : @Ne Nat d D := hof _ (.tail _ (.head _))
    have n3 : @Ne Nat D2 D := hof _ (.tail _ (.tail _ (.head _)))
    iterate 2 (focus walk1)
    refine kda_set (knd := PySem.intKind _ _) (by assumption) (by assumption) (.tail (by k_ne) (.tail (by k_ne) (.tail (by k_ne) (.head s2)))) b5 (intKind_is _ _ _ _) (by rw [sizeLine_eq]; lia) fun h' o2' F' N' hd' => ?_
    iterate 3 (focus walk1)
    rename Fr _ _ _ _ => F4
    rename News _ _ _ _ => N4
    refine UnrEnd.intro F4 N4 (_ :: _ :: _ :: R) (fun q hq => jr_sub hq) ?_ (jr_next b0 b1 b2 b3 b4 hd' ht' s0 s1 s2 s3 ⟨rfl, rfl, rfl, rfl, rfl, rfl, trivial⟩ hdc hkc (hsc.le hn) n2 n3 n1)
    refine List.forall_mem_cons.mpr ⟨by k_ne, List.forall_mem_cons.mpr ⟨by k_ne, List.forall_mem_cons.mpr ⟨by k_ne, s3⟩⟩⟩
end
-- Qf
theorem fillL3 : (fun (_ : OpenLaw) (_ : Params → Frag) => True) PySem.Challenge.rw_nm0124_01 K := by k_fill; trivial
inductive JOc (d l I : Nat) (R : List (Addr × Obj)) (k i : Nat) (m : PySem.Str → Option Value) (news : List (Addr × Obj)) : Prop
  | mk (b : Array UInt8) (t : Tok) (o : Obj) (h0 : b.size + k ≤ 175) (h6 : Tape o) (hm : AllOn m [(PySem.Str.ofString "octets", .bytes b t), (PySem.Str.ofString "tape", .ref d), (PySem.Str.ofString "changes", .ref l)]) (h7 : news = (d, o) :: R) : JOc d l I R k i m news
section
variable {w : World} {mean : ExcName → Option Value} {mg mb : PySem.Str → Option Value} {A : Around} {base g hp : Heap} {outer : List Env} {gs : Array GenState} {dr : Drawn} {tk : Nat} {os : OsState} {Q : Flow → Shared → Prop} {E : Value → Shared → Prop} {L f d l : Nat} {cd : Value} {m : PySem.Str → Option Value} {o : Obj} {R : List (Addr × Obj)}
theorem law8 {b : Array UInt8} {t : Tok} (a : Amb w mean mg mb A base outer g) (hr : Rm A 50) (r1 : ∀ p ∈ R, p.1 ≠ d) (F : Fr g L hp m) (N : News g L hp ((d, o) :: R)) (ht : Tape o) (hb : b.size ≤ 170)
    (hm : AllOn m [(PySem.Str.ofString "octets", .bytes b t), (PySem.Str.ofString "tape", .ref d), (PySem.Str.ofString "changes", .ref l)])
    (k : ∀ h' tk' m' b' t', Array.size b' ≤ 175 → Fr g L h' m' → AllOn m' [(PySem.Str.ofString "octets", .bytes b' t'), (PySem.Str.ofString "tape", .ref d), (PySem.Str.ofString "changes", .ref l)] → News g L h' R → Q .next ⟨h', gs, dr, tk', os⟩) :
    wpAny (MW w) (A.deeper (lwEnv L f cd)) (exec (lwSt 8) (lwEnv L f cd)) Q (fun e s' => wpAny (MW w) (A.deeper (lwEnv L f cd)) (leaving (lwEnv L f cd) e) (fun _ s'' => E e s'') (fun e' s'' => E e' s'') s') ⟨hp, gs, dr, tk, os⟩ := by
  obtain ⟨hnd, dp, fr, gd, un⟩ := A
  obtain rfl : hnd = none := a.hh
  obtain rfl : fr = some outer := a.B.stack
  have X := a.X
  have T := a.T
  have B := a.B
  unfold lwEnv
  conv in lwSt _ => whnf
  conv in (occs := *) fnScope _ => all_goals whnf
  replace F := Fr_on F hm
  dsimp only [ifsE] at F
  refine' For_invVF F ?k1 ?k2 ?_
  (case k1 => exact rfl)
  (case k2 => exact rfl)
  iterate 12 (focus walk1)
  refine w_next a (by assumption) (by assumption) (.head _) (.head r1) ht (hr.le (by decide)) (fun h' tk' n' t' o' ht' F' N' => ?_) rfl
  iterate 3 (focus walk1)
  have hq : Drw (Int.fmod n' 6) 6 := fm_in (by decide)
  generalize Int.fmod n' 6 = q at *
  iterate 1 (focus walk1)
  obtain ⟨q0, q3⟩ := hq
  rename IsRange _ _ _ _ _ _ _ _ => hR
  rename Fr _ _ _ _ => F3
  rename News _ _ _ _ => N3
  refine iter_rangeUnr rfl hR (small_one (by decide) (by decide) (by lia) (by lia)) (rangeSize_nat _ _) F3 N3 fun I lI => ?_
  (repeat (rename Fr _ _ _ _ => zz; clear zz)); (repeat (rename News _ _ _ _ => zz; clear zz))
  have lI' : ∀ p ∈ R, p.1 ≠ I := fun p hp => Nat.ne_of_lt (lI p (.tail _ hp))
  k_lt lI
  refine rangeRest_ind (JOc d l I R) ?h0 ?h1 _ _ _ _ ⟨b, _, _, by lia, ht', ⟨rfl, rfl, rfl, trivial⟩, rfl⟩
  case h0 =>
    intro _ m₂ news₂ J h₂ tk₂ F₂ N₂
    obtain ⟨b2, t2, o₁, b0, ht₁, hm, rfl⟩ := J
    exact k _ _ _ _ _ b0 F₂ hm (News_sub N₂ fun q hq => .tail _ hq)
  case h1 =>
    intro k j m₂ news₂ J u h₂ tk₂ F₂ N₂
    obtain ⟨b2, t2, o₁, b0, ht₁, hm, rfl⟩ := J
    replace F₂ : Fr g L h₂ _ := Fr_on F₂ (l := [(PySem.Str.ofString "turn", .int _ u), (PySem.Str.ofString "octets", .bytes b2 t2), (PySem.Str.ofString "tape", .ref d), (PySem.Str.ofString "changes", .ref l)]) ⟨rfl, hm⟩
    dsimp only [ifsE] at F₂
    iterate 18 (focus walk1)
    refine w_next a (by assumption) (by assumption) (.tail _ (.head _)) (.tail (by k_ne) (.head r1)) ht₁ (hr.le (by decide)) (fun h' tk' n' t' o' ht' F' N' => ?_) rfl
    have hm0 : 0 ≤ n'.fmod 256 := Int.fmod_nonneg_of_pos _ (by decide)
    have hm1 : n'.fmod 256 < 256 := Int.fmod_lt_of_pos _ (by decide)
    iterate 1 (focus walk1)
    walk1
    iterate 4 (focus walk1)
    refine KBy.add_bytes (by show _ + 1 ≤ _; lia) fun t' tk2 => ?_
    iterate 4 (focus walk1)
    rename Fr _ _ _ _ => F4
    rename News _ _ _ _ => N4
    refine UnrEnd.intro F4 N4 (_ :: R) (fun q hq => .tail _ hq) (List.forall_mem_cons.mpr ⟨by k_ne, lI'⟩) ⟨_, _, _, ?_, by assumption, ⟨rfl, rfl, rfl, trivial⟩, rfl⟩
    rw [Array.size_append]
    show b2.size + 1 + k ≤ 175
    lia
end
-- Qg
theorem fillL4 : (fun (_ : OpenLaw) (_ : Params → Frag) => True) PySem.Challenge.rw_nm0124_01 K := by k_fill; trivial
section
variable {prog : Program} {w : World} {A : Around} {E : Value → Shared → Prop} {s : Shared} {env : Env} {h₀ : Heap} {target : PySem.Expr} {body : List Stmt} {Q : Flow → Shared → Prop} {I : Addr} {lp : Addr × Obj}
theorem unrPostW_mono {L : Addr} {s₁ s₂ : Shared} {its : List (Addr × Obj)} {r r' : (PySem.Str → Option Value) → List (Addr × Obj) → Prop} {f : Flow} (h : ∀ m nx, r m nx → r' m nx) (u : UnrPostW h₀ L s₁ its r Q f s₂) : UnrPostW h₀ L s₁ its r' Q f s₂ := by
  have k : UnrEndW h₀ L s₁ its r s₂ → UnrEndW h₀ L s₁ its r' s₂ := fun ⟨h', tk, m', n', e, F, N, o, z⟩ => ⟨h', tk, m', n', e, F, N, o, h _ _ z⟩
  cases f with
  | ret v => exact u
  | brk => exact u
  | next => exact k u
  | cont => exact k u
theorem itemsRest_ind (J : List Value → (PySem.Str → Option Value) → List (Addr × Obj) → Prop) (hl : ∀ l m n, J l m n → lp ∈ n)
    (h0 : ∀ m news, J [] m news → ∀ h tk, Fr h₀ env.locals h m → News h₀ env.locals h news → Q .next { s with heap := h, toks := tk })
    (h1 : ∀ c r m news, J (c :: r) m news → ∀ (it : Obj) h tk, Fr h₀ env.locals h m → News h₀ env.locals h ((I, it) :: news) →
      wpAny (model prog w) A (assign target env c) (fun _ s₂ => wpAny (model prog w) A (execs body env) (UnrPostW h₀ env.locals { s with heap := h, toks := tk } [(I, it)] (J r) Q) E s₂) E { s with heap := h, toks := tk }) :
    ∀ l m news, J l m news → ItemsRest prog w A E h₀ env target body Q s [(I, "list_iterator")] [lp] (l.map .val) m news
  | [], m, news, j => h0 m news j
  | c :: r, m, news, j => ItemsRest.val fun h tk F => AllObj.cons fun it _ => AllObj.nil fun N =>
    wpAny_mono (h1 c r m news j it h tk F N) (fun _ _ z => wpAny_mono z (fun _ _ y => unrPostW_mono (fun m' n' j' => ⟨And.intro (hl _ _ _ j') trivial, itemsRest_ind J hl h0 h1 r m' n' j'⟩) y) fun _ _ z => z) fun _ _ z => z
end
inductive JCg (R : List (Addr × Obj)) (l : List Value) (m : PySem.Str → Option Value) (news : List (Addr × Obj)) : Prop
  | mk (b : Array UInt8) (t : Tok) (h0 : b.size + l.length ≤ 178) (h1 : ChgX l R) (hm : AllOn m [(PySem.Str.ofString "octets", .bytes b t)]) (h7 : news = R) : JCg R l m news
section
variable {w : World} {mean : ExcName → Option Value} {mg mb : PySem.Str → Option Value} {A : Around} {base g hp : Heap} {outer : List Env} {gs : Array GenState} {dr : Drawn} {tk : Nat} {os : OsState} {Q : Flow → Shared → Prop} {E : Value → Shared → Prop} {L f l : Nat} {cd : Value} {m : PySem.Str → Option Value} {R : List (Addr × Obj)}
theorem law9 {b : Array UInt8} {t tc : Tok} {vs : List Value} {n : Nat} (a : Amb w mean mg mb A base outer g) (hr : Rm A 50) (F : Fr g L hp m) (N : News g L hp R) (hb : b.size ≤ 175) (hl : (l, listOf vs.toArray n) ∈ R) (hc : ChgX vs R) (hvs : vs.length ≤ 3)
    (hm : AllOn m [(PySem.Str.ofString "octets", .bytes b t), (PySem.Str.ofString "changes", .ref l)])
    (k : ∀ h' tk' m' b' t', Array.size b' ≤ 178 → Fr g L h' m' → AllOn m' [(PySem.Str.ofString "octets", .bytes b' t')] → News g L h' R → Q .next ⟨h', gs, dr, tk', os⟩) :
    wpAny (MW w) (A.deeper (lwEnv L f cd)) (exec (lwSt 9) (lwEnv L f cd)) Q (fun e s' => wpAny (MW w) (A.deeper (lwEnv L f cd)) (leaving (lwEnv L f cd) e) (fun _ s'' => E e s'') (fun e' s'' => E e' s'') s') ⟨hp, gs, dr, tk, os⟩ := by
  obtain ⟨hnd, dp, fr, gd, un⟩ := A
  obtain rfl : hnd = none := a.hh
  obtain rfl : fr = some outer := a.B.stack
  have X := a.X
  have T := a.T
  have B := a.B
  unfold lwEnv
  conv in lwSt _ => whnf
  conv in (occs := *) fnScope _ => all_goals whnf
  replace F := Fr_on F hm
  dsimp only [ifsE] at F
  refine For_turns F ?_
  iterate 1 (focus walk1)
  refine iter_listTurns rfl (by assumption) N hl rfl rfl fun I lI => ?_
  refine itemsRest_ind (JCg R) ?hl ?h0 ?h1 _ _ _ ⟨_, _, by lia, hc, ⟨rfl, trivial⟩, rfl⟩
  case hl => exact fun l m n j => by obtain ⟨_, _, _, _, _, rfl⟩ := j; exact hl
  case h0 =>
    intro m₂ news₂ J h₂ tk₂ F₂ N₂
    obtain ⟨b2, t2, b0, hc2, hm, rfl⟩ := J
    exact k _ _ _ _ _ (by simpa using b0) F₂ hm N₂
  case h1 =>
    intro v r m₂ news₂ J it h₂ tk₂ F₂ N₂
    obtain ⟨b2, t2, b0, hc2, hm, rfl⟩ := J
    obtain ⟨c, way, place, value, u1, u2, u3, rfl, hin, v0, v1⟩ := hc2 v (.head _)
    replace F₂ : Fr g L h₂ _ := Fr_on F₂ hm
    replace N₂ : News g L h₂ ((c, _) :: (I, it) :: news₂) := fun p hp => (List.mem_cons.mp hp).elim (fun e => e ▸ N₂ _ (.tail _ hin)) (N₂ p)
    dsimp only [ifsE] at F₂
    rw [List.length_cons] at b0
    iterate 27 (focus walk1)
    refine w_lchanged a (by assumption) (by assumption) v0 v1 (by lia) (hr.le (by decide)) (fun h' tk' b3 t3 hb3 F' N' => ?_) rfl
    iterate 4 (focus walk1)
    rename Fr _ _ _ _ => F4
    rename News _ _ _ _ => N4
    exact ⟨_, _, _, _, rfl, F4, (News_sub N4 fun q hq => .tail _ hq), (fun p hp q hq e => Nat.lt_irrefl _ (by rw [List.mem_singleton.mp hq] at e; exact e ▸ lI p hp)), ⟨_, _, by lia, fun v hv => hc2 v (.tail _ hv), ⟨rfl, trivial⟩, rfl⟩⟩
end
-- Qh
theorem fillL5 : (fun (_ : OpenLaw) (_ : Params → Frag) => True) PySem.Challenge.rw_nm0124_01 K := by k_fill; trivial
theorem AllLt.ne {d : Nat} : ∀ {l : List (Addr × Obj)}, AllLt d l → ∀ p ∈ l, p.1 ≠ d
  | [], _, _, h => nomatch h
  | q :: r, h, p, hp => by
    rcases List.mem_cons.mp hp with e | hp
    · exact e ▸ Nat.ne_of_lt h.1
    · exact AllLt.ne h.2 p hp
theorem ChgX.mono {vs : List Value} {R R' : List (Addr × Obj)} (h : ChgX vs R) (hs : ∀ p ∈ R, p ∈ R') : ChgX vs R' := fun v hv => by
  obtain ⟨c, way, place, value, t1, t2, t3, e, hi, h⟩ := h v hv
  exact ⟨c, way, place, value, t1, t2, t3, e, hs _ hi, h⟩
theorem RowX.mono {w : World} {kl : List (Int × Value)} {R R' : List (Addr × Obj)} (h : RowX w kl R) (hs : ∀ p ∈ R, p ∈ R') : RowX w kl R' := fun v hv => by
  obtain ⟨a1, a2, c, oc, kv, done, e, hi, h⟩ := h v hv
  exact ⟨a1, a2, c, oc, kv, done, e, hs _ hi, h⟩
theorem lw_sub4 {a b c e q z : Addr × Obj} {R : List (Addr × Obj)} (h : q ∈ c :: a :: b :: e :: R) : q ∈ z :: a :: b :: c :: e :: R := by
  simp only [List.mem_cons] at h ⊢
  rcases h with h | h | h | h | h <;> simp [h]
theorem lw_sub2 {a b c q : Addr × Obj} {R : List (Addr × Obj)} (hc : c ∈ R) (h : q ∈ c :: b :: a :: R) : q ∈ a :: b :: R := by
  simp only [List.mem_cons] at h ⊢
  rcases h with h | h | h | h
  · subst h; exact .inr (.inr hc)
  · exact .inr (.inl h)
  · exact .inl h
  · exact .inr (.inr h)
section
variable {w : World} {mean : ExcName → Option Value} {mg mb : PySem.Str → Option Value} {A : Around} {base g hp : Heap} {outer : List Env} {gs : Array GenState} {dr : Drawn} {tk : Nat} {os : OsState} {Q : Flow → Shared → Prop} {E : Value → Shared → Prop} {L f S : Nat} {cd : Value} {m : PySem.Str → Option Value}
theorem law_walk {vs : List Value} {ns : List Int} (a : Amb w mean mg mb A base outer g) (XB : (K w.params).In base) (TB : Top view loose mean mg mb base) (D : KtsDicts (frs outer) g) (hgd : A.guards = some []) (hr : Rm A 50) (F : Fr g L hp m) (N : News g L hp [])
    (hS : g.IsList S vs.toArray) (hI : IntsAre vs ns) (hl : ns.length ≤ 63) (hm : AllOn m [(PySem.Str.ofString "script", .ref S)]) (k : ∀ h' tk' g' m', KtsTurn (frs outer) g g' → Fr g' L h' m' → Q (.ret (.bool true)) ⟨h', gs, dr, tk', os⟩) :
    wpAny (MW w) (A.deeper (lwEnv L f cd)) (execs (fnBody (stAt 36)) (lwEnv L f cd)) Q (fun e s' => wpAny (MW w) (A.deeper (lwEnv L f cd)) (leaving (lwEnv L f cd) e) (fun _ s'' => E e s'') (fun e' s'' => E e' s'') s') ⟨hp, gs, dr, tk, os⟩ := by
  obtain ⟨hnd, dp, fr, gd, un⟩ := A
  obtain rfl : hnd = none := a.hh
  obtain rfl : fr = some outer := a.B.stack
  have X := a.X
  have T := a.T
  have B := a.B
  unfold lwEnv
  conv in (occs := *) fnBody _ => all_goals whnf
  conv in (occs := *) fnScope _ => all_goals whnf
  replace F := Fr_on F hm
  dsimp only [ifsE] at F
  iterate 21 (focus walk1)
  rename Fr _ _ _ _ => F1
  rename News _ _ _ _ => N1
  rename IntsAre _ ns.reverse => hI1
  k_dflt (refine law2 a hr (by assumption) F1 N1 ⟨⟨_, _, _, rfl, hI1, by rw [hI1.length, List.length_reverse]; exact hl⟩⟩ ⟨rfl, rfl, trivial⟩ fun h1 tk1 m1 cs R o1 n1 hcs hc ht1 r1 F2 hm2 N2 => ?_)
  iterate 1 (focus walk1)
  rename @LT.lt Nat _ _ _ => hdl
  have r2 := List.forall_mem_cons (a := ((_, listOf cs.toArray n1) : Addr × Obj)).mpr ⟨Nat.ne_of_gt hdl, r1⟩
  k_dflt (refine law3 a hr r2 F2 (News_sub N2 fun q hq => ?s1) ht1 hm2 fun h2 tk2 m2 mv tt o2 hmv htx ht2 F3 hm3 N3 => ?_)
  case s1 => rcases List.mem_cons.mp hq with h | h; exact h ▸ .tail _ (.head _); exact (List.mem_cons.mp h).elim (fun h => h ▸ .head _) fun h => .tail _ (.tail _ h)
  replace F3 := Fr_on F3 hm3
  dsimp only [ifsE] at F3
  clear F1 N1 F2 N2
  iterate 17 (focus walk1)
  refine w_next a (by assumption) (by assumption) (.head _) (.head r2) ht2 (hr.le (by decide)) (fun h' tk' n2 t' o' ht' F' N' => ?_) rfl
  iterate 6 (focus walk1)
  obtain ⟨nn, e, hn⟩ : ∃ nn : Nat, (n2 + 2).fmod 4 = nn ∧ nn ≤ 3 := by
    have := fm_in (n := n2 + 2) (k := 4) (by decide)
    exact ⟨((n2 + 2).fmod 4).toNat, by lia, by lia⟩
  rw [e]
  refine w_lsome a (by assumption) (by assumption) (.head _) (.head r2) ht' hn (hr.le (by decide)) (fun h' tk' D1 oc kv done o3 hof hdc hkc hsc ht3 F' N' => ?_) rfl
  iterate 23 (focus walk1)
  rename @LT.lt Nat _ D1 _ ∧ _ => hl1
  rename Obj.IsDictOf (PySem.intKind _ _) _ [] => hd2
  rename Fr _ _ _ _ => F4
  rename News _ _ _ _ => N4
  have q1 := List.forall_mem_cons (a := (D1, oc)).mpr ⟨(hof _ (.head _)).symm, r2⟩
  have q2 := List.forall_mem_cons (a := (D1, oc)).mpr ⟨Nat.ne_of_lt hl1.1, List.forall_mem_cons (a := ((_, listOf cs.toArray n1) : Addr × Obj)).mpr ⟨Nat.ne_of_lt hl1.2.2.1, AllLt.ne hl1.2.2.2⟩⟩
  k_dflt (refine law6 a hr (Nat.ne_of_lt hl1.2.1) q1 q2 F4 (News_sub N4 fun q hq => ?s2) ht3 hd2 ⟨rfl, rfl, rfl, rfl, rfl, rfl, trivial⟩ fun h3 tk3 m3 o4 o5 kl R' hkl d2 hR ht4 hs0 r3 F5 hm5 N5 => ?_)
  case s2 => exact lw_sub4 hq
  replace F5 := Fr_on F5 hm5
  dsimp only [ifsE] at F5
  clear F4 N4
  iterate 13 (focus walk1)
  refine w_lwritten a (by assumption) (News_sub N5 fun q hq => lw_sub2 (hs0 _ (.head _)) hq) hmv htx hdc hkc (hsc.le hn) d2 hkl (hR.mono fun p hp => .tail _ hp) (hr.le (by decide)) (fun h' tk' b u hb F' N' => ?_) rfl
  iterate 3 (focus walk1)
  k_dflt (refine law8 a hr r3 (by assumption) (News_sub (by assumption) fun q hq => .tail _ (.tail _ hq)) ht4 hb ⟨rfl, rfl, rfl, trivial⟩ fun h4 tk4 m4 b4 t4 hb4 F6 hm6 N6 => ?_)
  iterate 1 (focus walk1)
  have hs1 : ∀ p ∈ R, p ∈ R' := fun p hp => hs0 p (.tail _ (.tail _ hp))
  k_dflt (refine law9 (l := _) (tc := 0) a hr F6 N6 hb4 (hs0 _ (.tail _ (.head _))) (hc.mono hs1) hcs ⟨hm6.1, hm6.2.2.1, trivial⟩ fun h5 tk5 m5 b5 t5 hb5 F7 hm7 N7 => ?_)
  replace F7 := Fr_on F7 hm7
  dsimp only [ifsE] at F7
  clear F6 N6
  iterate 9 (focus walk1)
  refine c_told (s := ⟨h5, gs, dr, _, os⟩) rfl (by rw [KBw.ints_length]; lia) (siteA (s := ⟨h5, gs, dr, _, os⟩) a F7 N7 nin rfl) (siteO (s := ⟨h5, gs, dr, _, os⟩) N7 nin) XB TB (frs_dicts D F7) (Rm.deeper (hr.le (by decide))) hgd fun h' tk' g' t' _ _ ov => ?_
  obtain ⟨g2, t2, _, _, F8, _⟩ := turn_back (s := ⟨h5, gs, dr, _, os⟩) a XB TB D F7 N7 t' ov
  exact k _ _ _ _ t2 F8
end
-- Mh
noncomputable def dLaw : DefRec := ⟨PySem.Str.ofString "law", fnParams (stAt 36), fnBody (stAt 36), fnScope (stAt 36), fnPos (stAt 36)⟩
theorem hd (hc : WalkO view [PySem.Str.ofString "text_of"] (XL view []) ((kHook K KAs KAs_eq).says) (OpenRow.toRowW (OpenLaw.row PySem.Challenge.rw_nm0124_01)) dLaw [] fun f vs => call f vs) :
    PySem.Challenge.rw_nm0124_01.Holds := by
  w_on
  refine holds_law said fun said' => ?_
  refine PySem.W.holds_open (q := view) (loose := [PySem.Str.ofString "text_of"]) (Xt := fun s => xlAt view [] s && recOk [] s) (XP := XL view []) (Yf := Hook.obs hook) (Ya := Hook.val hook) (YP := (kHook K KAs KAs_eq).says) (N := 4646)
    hl (Hook.of hook) (Hook.keeps hook) (fun s e => xl_of s (Bool.and_eq_true_iff.mp e).1) XL.keeps (by kernel_rfl) (by kernel_rfl) (by kernel_rfl)
    (fun s e => recFacts_of (Bool.and_eq_true_iff.mp e).2) (by kernel_rfl) said' (by decide +kernel) ⟨by kernel_rfl, by kernel_rfl, by kernel_rfl, by kernel_rfl, by kernel_rfl, by decide +kernel⟩ ?hw hc
  case hw => w_witness2
-- Qi
theorem loose_eq : looseW view [PySem.Str.ofString "text_of"] = loose := by decide +kernel
theorem turn_none {g g' h : Heap} {L : Addr} {m : PySem.Str → Option Value} (t : KtsTurn (frs []) g g') (F : Fr g' L h m) : Fr g L h m :=
  ⟨F.ns, fun b o e => F.keep b o (t.other b o e fun z => nomatch z), by rw [← t.size]; exact F.above⟩
theorem law_holds : PySem.Challenge.rw_nm0124_01.Holds := Mine.hd (by
  k_fill
  intro w s₀ s₁ mg mb G Y fa o pm cd doc dV kV ho hd hcd hD hmg hg args vals as hpre hlay hrd hwl hlo
  have X := kIn_of Y
  refine Ground.open G ?_
  intro T B D TE TW
  have TA := at_of_top T
  obtain ⟨_, _, he, B0⟩ := based_of_top T rfl hmg ho hd
  have he' : cd = _ := he
  subst he'; clear he
  wrow_args hpre hlay hrd hwl hlo
  refine enter_call ?_
  w_top on
  refine codeAny_mono ?_ (fun _ _ g => GoodW.toG g)
  have K0 := below_caller (Top.heap T)
  w_call any ho hd hcd hD T F
  k_drop
  have T' := loose_eq ▸ T
  rename Below _ _ _ _ => B0
  rename Fr _ _ _ _ => F
  rename News _ _ _ _ => N
  rename IntsAre _ _ => hI
  rename Heap.IsList _ _ _ => hL
  k_dflt (refine law_walk (g := _) (base := _) (outer := []) ⟨B0, X, T', rfl⟩ X T' (fun _ h => nomatch h) rfl ⟨by decide, by decide⟩ F N hL hI (by omega) ⟨rfl, trivial⟩ fun h' tk' g' m' t' F' => ?_)
  have F8 := turn_none t' F'
  dsimp only
  (k_end; kc_close))
end Mine
theorem PySem.Challenge.cw_nm0124_01_holds : PySem.Challenge.rw_nm0124_01.Holds :=
  Mine.law_holds
